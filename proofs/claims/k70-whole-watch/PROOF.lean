import PyProof.Rows.All
import Wide.All
import OpenK.AllK
import Wide.FinOn
import KE.KStateDown
import HandS.ForMost
import HandS.WordsExc
import HandS.Defaults
import HandS.Walk
import HandS.ClsMeth
import HandS.Head0
import HandS.Head1
import HandS.Head2
import HandS.HeadEnd
import HandS.HeadHook1
import HandS.HeadHook2
import HandS.HeadHook3
import HandS.HeadHook4
import HandS.IsInst
import HandS.NoneIn
import HandS.Conv
import HandS.Zip
import HandS.TupLe
import HandS.DictTup
import HandS.SortRule
import HandS.NamedTupSort
import HandS.Flt
import HandS.Style
import PySem.Challenge.RW_panethread_k70_whole_watch
set_option Elab.async false
set_option linter.all false
set_option maxRecDepth 100000
set_option maxHeartbeats 4000000
section
set_option maxRecDepth 100000
namespace Pt
open PySem PySem.Spec PyProof.Rows L2
def top (i : Nat) : Stmt := PySem.Challenge.pw_panethread_k70_whole_watch.main.body.getD i (.Pass ⟨0, 0, 0, 0⟩)
abbrev s_is_whole : Stmt := top 20
abbrev s_is_within : Stmt := top 21
abbrev s_is_letter : Stmt := top 22
abbrev s_is_row : Stmt := top 23
abbrev s_is_plain : Stmt := top 24
abbrev s_need_row : Stmt := top 25
abbrev s_need_rows : Stmt := top 26
abbrev s_need_plain : Stmt := top 27
abbrev s_need_span : Stmt := top 28
abbrev s_parted : Stmt := top 29
abbrev s_unparted : Stmt := top 30
abbrev s_is_turning : Stmt := top 33
abbrev s_need_turning : Stmt := top 34
abbrev s_need_place_turnings : Stmt := top 35
abbrev s_straight : Stmt := top 37
abbrev s_opposite : Stmt := top 38
abbrev s_mixed : Stmt := top 40
abbrev s_floors_of : Stmt := top 41
abbrev s_lesser : Stmt := top 42
abbrev s_need_window : Stmt := top 45
abbrev s_worked_through : Stmt := top 48
abbrev s_steps_of : Stmt := top 49
abbrev s_need_alike : Stmt := top 50
abbrev s_laid : Stmt := top 51
abbrev s_need_piece : Stmt := top 54
abbrev s_need_sign_pieces : Stmt := top 55
abbrev s_half_made : Stmt := top 61
abbrev s_balanced : Stmt := top 62
abbrev s_need_sign_kept : Stmt := top 67
abbrev s_need_place_kept : Stmt := top 69
abbrev s_need_limit : Stmt := top 74
abbrev s_ranked : Stmt := top 75
abbrev s_are_wholes : Stmt := top 76
abbrev s_is_told : Stmt := top 77
abbrev s_is_ranked : Stmt := top 78
abbrev s_need_ranked : Stmt := top 79
abbrev s_ranks_of : Stmt := top 80
abbrev s_difference : Stmt := top 81
abbrev s_are_news : Stmt := top 82
abbrev s_led : Stmt := top 83
abbrev s_followed : Stmt := top 84
abbrev s_need_letter : Stmt := top 86
abbrev s_need_below : Stmt := top 87
abbrev s__law_cell : Stmt := top 90
abbrev s__law_drawn : Stmt := top 91
abbrev s__law_letters : Stmt := top 92
abbrev s__law_row : Stmt := top 93
abbrev s__law_costs : Stmt := top 94
abbrev s__law_near : Stmt := top 95
abbrev s__law_tuples : Stmt := top 96
abbrev s__law_news_kind : Stmt := top 97
abbrev s__law_ranks : Stmt := top 98
abbrev s__law_news : Stmt := top 99
abbrev s__law_deed : Stmt := top 100
abbrev s__law_chosen : Stmt := top 101
abbrev s__law_stretches : Stmt := top 102
abbrev s__law_step : Stmt := top 103
abbrev s__law_ranked_as : Stmt := top 104
abbrev s__law_stands : Stmt := top 105
abbrev s_law : Stmt := top 106
abbrev s_Tally_init : Stmt := inClass (top 43) 0
abbrev s_Tally_from_on : Stmt := inClass (top 43) 1
abbrev s_Tally_below : Stmt := inClass (top 43) 2
abbrev s_Asks_init : Stmt := inClass (top 46) 0
abbrev s_Asks_window : Stmt := inClass (top 46) 1
abbrev s_Asks_stretch : Stmt := inClass (top 46) 2
abbrev s_Piece_init : Stmt := inClass (top 53) 0
abbrev s_Piece_side : Stmt := inClass (top 53) 1
abbrev s_Piece_top : Stmt := inClass (top 53) 2
abbrev s_Piece_lines : Stmt := inClass (top 53) 3
abbrev s_Piece_height : Stmt := inClass (top 53) 5
abbrev s_Blank_init : Stmt := inClass (top 57) 0
abbrev s_One_init : Stmt := inClass (top 58) 0
abbrev s_Over_init : Stmt := inClass (top 59) 0
abbrev s_Beside_init : Stmt := inClass (top 60) 0
abbrev s_Limb_init : Stmt := inClass (top 64) 0
abbrev s_Limb_rows_from : Stmt := inClass (top 64) 1
abbrev s_Grower_init : Stmt := inClass (top 65) 0
abbrev s_Grower_leaf : Stmt := inClass (top 65) 1
abbrev s_Grower_knot : Stmt := inClass (top 65) 2
abbrev s_Grower_joined : Stmt := inClass (top 65) 3
abbrev s_Grower_grown : Stmt := inClass (top 65) 4
abbrev s_Grower_put : Stmt := inClass (top 65) 5
abbrev s_Grower_drop : Stmt := inClass (top 65) 6
abbrev s_Grower_change : Stmt := inClass (top 65) 7
abbrev s_Kept_init : Stmt := inClass (top 71) 0
abbrev s_Kept_side : Stmt := inClass (top 71) 1
abbrev s_Kept_top : Stmt := inClass (top 71) 2
abbrev s_Kept_lines : Stmt := inClass (top 71) 3
abbrev s_Kept_pieces : Stmt := inClass (top 71) 6
abbrev s_Kept_put : Stmt := inClass (top 71) 11
abbrev s_Kept_drop : Stmt := inClass (top 71) 12
abbrev s_Kept_change : Stmt := inClass (top 71) 13
abbrev s_Kept_retop : Stmt := inClass (top 71) 14
abbrev s_Kept_note : Stmt := inClass (top 71) 15
abbrev s_Watch_init : Stmt := inClass (top 88) 0
abbrev s_Watch_side : Stmt := inClass (top 88) 1
abbrev s_Watch_top : Stmt := inClass (top 88) 2
abbrev s_Watch_most : Stmt := inClass (top 88) 3
abbrev s_Watch_told : Stmt := inClass (top 88) 4
abbrev s_Watch_reckoned : Stmt := inClass (top 88) 5
abbrev s_Watch_news : Stmt := inClass (top 88) 6
abbrev s_Watch_rank : Stmt := inClass (top 88) 7
abbrev s_Watch_row_of : Stmt := inClass (top 88) 9
abbrev s_Watch_retop : Stmt := inClass (top 88) 10
abbrev s_Watch_put : Stmt := inClass (top 88) 11
abbrev s_Watch_drop : Stmt := inClass (top 88) 12
abbrev s_Watch_change : Stmt := inClass (top 88) 13
abbrev s_Watch_limit : Stmt := inClass (top 88) 14
end Pt
end
section
set_option maxRecDepth 100000
set_option maxHeartbeats 0
namespace Pt
open PySem PySem.Spec PyProof.Rows L2
def d_is_whole : He.DefD := ⟨("is_whole", none), "is_whole", "is_whole", defArgs s_is_whole, defBody s_is_whole, defScope s_is_whole, [], []⟩
def d_is_within : He.DefD := ⟨("is_within", none), "is_within", "is_within", defArgs s_is_within, defBody s_is_within, defScope s_is_within, [], []⟩
def d_is_letter : He.DefD := ⟨("is_letter", none), "is_letter", "is_letter", defArgs s_is_letter, defBody s_is_letter, defScope s_is_letter, [], []⟩
def d_is_row : He.DefD := ⟨("is_row", none), "is_row", "is_row", defArgs s_is_row, defBody s_is_row, defScope s_is_row, [], []⟩
def d_is_plain : He.DefD := ⟨("is_plain", none), "is_plain", "is_plain", defArgs s_is_plain, defBody s_is_plain, defScope s_is_plain, [], []⟩
def d_need_row : He.DefD := ⟨("need_row", none), "need_row", "need_row", defArgs s_need_row, defBody s_need_row, defScope s_need_row, [], []⟩
def d_need_rows : He.DefD := ⟨("need_rows", none), "need_rows", "need_rows", defArgs s_need_rows, defBody s_need_rows, defScope s_need_rows, [], []⟩
def d_need_plain : He.DefD := ⟨("need_plain", none), "need_plain", "need_plain", defArgs s_need_plain, defBody s_need_plain, defScope s_need_plain, [], []⟩
def d_need_span : He.DefD := ⟨("need_span", none), "need_span", "need_span", defArgs s_need_span, defBody s_need_span, defScope s_need_span, [], []⟩
def d_parted : He.DefD := ⟨("parted", none), "parted", "parted", defArgs s_parted, defBody s_parted, defScope s_parted, [], []⟩
def d_unparted : He.DefD := ⟨("unparted", none), "unparted", "unparted", defArgs s_unparted, defBody s_unparted, defScope s_unparted, [], []⟩
def d_is_turning : He.DefD := ⟨("is_turning", none), "is_turning", "is_turning", defArgs s_is_turning, defBody s_is_turning, defScope s_is_turning, [], []⟩
def d_need_turning : He.DefD := ⟨("need_turning", none), "need_turning", "need_turning", defArgs s_need_turning, defBody s_need_turning, defScope s_need_turning, [], []⟩
def d_need_place_turnings : He.DefD := ⟨("need_place_turnings", none), "need_place", "need_place", defArgs s_need_place_turnings, defBody s_need_place_turnings, defScope s_need_place_turnings, [], []⟩
def d_straight : He.DefD := ⟨("straight", none), "straight", "straight", defArgs s_straight, defBody s_straight, defScope s_straight, [], []⟩
def d_opposite : He.DefD := ⟨("opposite", none), "opposite", "opposite", defArgs s_opposite, defBody s_opposite, defScope s_opposite, [], []⟩
def d_mixed : He.DefD := ⟨("mixed", none), "mixed", "mixed", defArgs s_mixed, defBody s_mixed, defScope s_mixed, [], []⟩
def d_floors_of : He.DefD := ⟨("floors_of", none), "floors_of", "floors_of", defArgs s_floors_of, defBody s_floors_of, defScope s_floors_of, [], []⟩
def d_lesser : He.DefD := ⟨("lesser", none), "lesser", "lesser", defArgs s_lesser, defBody s_lesser, defScope s_lesser, [], []⟩
def d_need_window : He.DefD := ⟨("need_window", none), "need_window", "need_window", defArgs s_need_window, defBody s_need_window, defScope s_need_window, [], []⟩
def d_worked_through : He.DefD := ⟨("worked_through", none), "worked_through", "worked_through", defArgs s_worked_through, defBody s_worked_through, defScope s_worked_through, [], []⟩
def d_steps_of : He.DefD := ⟨("steps_of", none), "steps_of", "steps_of", defArgs s_steps_of, defBody s_steps_of, defScope s_steps_of, [], []⟩
def d_need_alike : He.DefD := ⟨("need_alike", none), "need_alike", "need_alike", defArgs s_need_alike, defBody s_need_alike, defScope s_need_alike, [], []⟩
def d_laid : He.DefD := ⟨("laid", none), "laid", "laid", defArgs s_laid, defBody s_laid, defScope s_laid, [], []⟩
def d_need_piece : He.DefD := ⟨("need_piece", none), "need_piece", "need_piece", defArgs s_need_piece, defBody s_need_piece, defScope s_need_piece, [], []⟩
def d_need_sign_pieces : He.DefD := ⟨("need_sign_pieces", none), "need_sign", "need_sign", defArgs s_need_sign_pieces, defBody s_need_sign_pieces, defScope s_need_sign_pieces, [], []⟩
def d_half_made : He.DefD := ⟨("half_made", none), "half_made", "half_made", defArgs s_half_made, defBody s_half_made, defScope s_half_made, [], []⟩
def d_balanced : He.DefD := ⟨("balanced", none), "balanced", "balanced", defArgs s_balanced, defBody s_balanced, defScope s_balanced, [], []⟩
def d_need_sign_kept : He.DefD := ⟨("need_sign_kept", none), "need_sign", "need_sign", defArgs s_need_sign_kept, defBody s_need_sign_kept, defScope s_need_sign_kept, [], []⟩
def d_need_place_kept : He.DefD := ⟨("need_place_kept", none), "need_place", "need_place", defArgs s_need_place_kept, defBody s_need_place_kept, defScope s_need_place_kept, [], []⟩
def d_need_limit : He.DefD := ⟨("need_limit", none), "need_limit", "need_limit", defArgs s_need_limit, defBody s_need_limit, defScope s_need_limit, [], []⟩
def d_ranked : He.DefD := ⟨("ranked", none), "ranked", "ranked", defArgs s_ranked, defBody s_ranked, defScope s_ranked, [], []⟩
def d_are_wholes : He.DefD := ⟨("are_wholes", none), "are_wholes", "are_wholes", defArgs s_are_wholes, defBody s_are_wholes, defScope s_are_wholes, [], []⟩
def d_is_told : He.DefD := ⟨("is_told", none), "is_told", "is_told", defArgs s_is_told, defBody s_is_told, defScope s_is_told, [], []⟩
def d_is_ranked : He.DefD := ⟨("is_ranked", none), "is_ranked", "is_ranked", defArgs s_is_ranked, defBody s_is_ranked, defScope s_is_ranked, [], []⟩
def d_need_ranked : He.DefD := ⟨("need_ranked", none), "need_ranked", "need_ranked", defArgs s_need_ranked, defBody s_need_ranked, defScope s_need_ranked, [], []⟩
def d_ranks_of : He.DefD := ⟨("ranks_of", none), "ranks_of", "ranks_of", defArgs s_ranks_of, defBody s_ranks_of, defScope s_ranks_of, [], []⟩
def d_difference : He.DefD := ⟨("difference", none), "difference", "difference", defArgs s_difference, defBody s_difference, defScope s_difference, [], []⟩
def d_are_news : He.DefD := ⟨("are_news", none), "are_news", "are_news", defArgs s_are_news, defBody s_are_news, defScope s_are_news, [], []⟩
def d_led : He.DefD := ⟨("led", none), "led", "led", defArgs s_led, defBody s_led, defScope s_led, [], []⟩
def d_followed : He.DefD := ⟨("followed", none), "followed", "followed", defArgs s_followed, defBody s_followed, defScope s_followed, [], []⟩
def d_need_letter : He.DefD := ⟨("need_letter", none), "need_letter", "need_letter", defArgs s_need_letter, defBody s_need_letter, defScope s_need_letter, [], []⟩
def d_need_below : He.DefD := ⟨("need_below", none), "need_below", "need_below", defArgs s_need_below, defBody s_need_below, defScope s_need_below, [], []⟩
def d__law_cell : He.DefD := ⟨("_law_cell", none), "_law_cell", "_law_cell", defArgs s__law_cell, defBody s__law_cell, defScope s__law_cell, [], []⟩
def d__law_drawn : He.DefD := ⟨("_law_drawn", none), "_law_drawn", "_law_drawn", defArgs s__law_drawn, defBody s__law_drawn, defScope s__law_drawn, [], []⟩
def d__law_letters : He.DefD := ⟨("_law_letters", none), "_law_letters", "_law_letters", defArgs s__law_letters, defBody s__law_letters, defScope s__law_letters, [], []⟩
def d__law_row : He.DefD := ⟨("_law_row", none), "_law_row", "_law_row", defArgs s__law_row, defBody s__law_row, defScope s__law_row, [], []⟩
def d__law_costs : He.DefD := ⟨("_law_costs", none), "_law_costs", "_law_costs", defArgs s__law_costs, defBody s__law_costs, defScope s__law_costs, [], []⟩
def d__law_near : He.DefD := ⟨("_law_near", none), "_law_near", "_law_near", defArgs s__law_near, defBody s__law_near, defScope s__law_near, [], []⟩
def d__law_tuples : He.DefD := ⟨("_law_tuples", none), "_law_tuples", "_law_tuples", defArgs s__law_tuples, defBody s__law_tuples, defScope s__law_tuples, [], []⟩
def d__law_news_kind : He.DefD := ⟨("_law_news_kind", none), "_law_news_kind", "_law_news_kind", defArgs s__law_news_kind, defBody s__law_news_kind, defScope s__law_news_kind, [], []⟩
def d__law_ranks : He.DefD := ⟨("_law_ranks", none), "_law_ranks", "_law_ranks", defArgs s__law_ranks, defBody s__law_ranks, defScope s__law_ranks, [], []⟩
def d__law_news : He.DefD := ⟨("_law_news", none), "_law_news", "_law_news", defArgs s__law_news, defBody s__law_news, defScope s__law_news, [], []⟩
def d__law_deed : He.DefD := ⟨("_law_deed", none), "_law_deed", "_law_deed", defArgs s__law_deed, defBody s__law_deed, defScope s__law_deed, [], []⟩
def d__law_chosen : He.DefD := ⟨("_law_chosen", none), "_law_chosen", "_law_chosen", defArgs s__law_chosen, defBody s__law_chosen, defScope s__law_chosen, [], []⟩
def d__law_stretches : He.DefD := ⟨("_law_stretches", none), "_law_stretches", "_law_stretches", defArgs s__law_stretches, defBody s__law_stretches, defScope s__law_stretches, [], []⟩
def d__law_step : He.DefD := ⟨("_law_step", none), "_law_step", "_law_step", defArgs s__law_step, defBody s__law_step, defScope s__law_step, [], []⟩
def d__law_ranked_as : He.DefD := ⟨("_law_ranked_as", none), "_law_ranked_as", "_law_ranked_as", defArgs s__law_ranked_as, defBody s__law_ranked_as, defScope s__law_ranked_as, [], []⟩
def d__law_stands : He.DefD := ⟨("_law_stands", none), "_law_stands", "_law_stands", defArgs s__law_stands, defBody s__law_stands, defScope s__law_stands, [], []⟩
def d_law : He.DefD := ⟨("law", none), "law", "law", defArgs s_law, defBody s_law, defScope s_law, [], []⟩
def d_Tally_init : He.DefD := ⟨("Tally", some "__init__"), "__init__", "Tally.__init__", defArgs s_Tally_init, defBody s_Tally_init, defScope s_Tally_init, [], []⟩
def d_Tally_from_on : He.DefD := ⟨("Tally", some "from_on"), "from_on", "Tally.from_on", defArgs s_Tally_from_on, defBody s_Tally_from_on, defScope s_Tally_from_on, [], []⟩
def d_Tally_below : He.DefD := ⟨("Tally", some "below"), "below", "Tally.below", defArgs s_Tally_below, defBody s_Tally_below, defScope s_Tally_below, [], []⟩
def d_Asks_init : He.DefD := ⟨("Asks", some "__init__"), "__init__", "Asks.__init__", defArgs s_Asks_init, defBody s_Asks_init, defScope s_Asks_init, [], []⟩
def d_Asks_window : He.DefD := ⟨("Asks", some "window"), "window", "Asks.window", defArgs s_Asks_window, defBody s_Asks_window, defScope s_Asks_window, [], []⟩
def d_Asks_stretch : He.DefD := ⟨("Asks", some "stretch"), "stretch", "Asks.stretch", defArgs s_Asks_stretch, defBody s_Asks_stretch, defScope s_Asks_stretch, [], []⟩
def d_Piece_init : He.DefD := ⟨("Piece", some "__init__"), "__init__", "Piece.__init__", defArgs s_Piece_init, defBody s_Piece_init, defScope s_Piece_init, [], []⟩
def d_Piece_side : He.DefD := ⟨("Piece", some "side"), "side", "Piece.side", defArgs s_Piece_side, defBody s_Piece_side, defScope s_Piece_side, [], []⟩
def d_Piece_top : He.DefD := ⟨("Piece", some "top"), "top", "Piece.top", defArgs s_Piece_top, defBody s_Piece_top, defScope s_Piece_top, [], []⟩
def d_Piece_lines : He.DefD := ⟨("Piece", some "lines"), "lines", "Piece.lines", defArgs s_Piece_lines, defBody s_Piece_lines, defScope s_Piece_lines, [], []⟩
def d_Piece_height : He.DefD := ⟨("Piece", some "height"), "height", "Piece.height", defArgs s_Piece_height, defBody s_Piece_height, defScope s_Piece_height, [], []⟩
def d_Blank_init : He.DefD := ⟨("Blank", some "__init__"), "__init__", "Blank.__init__", defArgs s_Blank_init, defBody s_Blank_init, defScope s_Blank_init, [], []⟩
def d_Blank_side : He.DefD := ⟨("Blank", some "side"), "side", "Piece.side", defArgs s_Piece_side, defBody s_Piece_side, defScope s_Piece_side, [], []⟩
def d_Blank_top : He.DefD := ⟨("Blank", some "top"), "top", "Piece.top", defArgs s_Piece_top, defBody s_Piece_top, defScope s_Piece_top, [], []⟩
def d_Blank_lines : He.DefD := ⟨("Blank", some "lines"), "lines", "Piece.lines", defArgs s_Piece_lines, defBody s_Piece_lines, defScope s_Piece_lines, [], []⟩
def d_Blank_height : He.DefD := ⟨("Blank", some "height"), "height", "Piece.height", defArgs s_Piece_height, defBody s_Piece_height, defScope s_Piece_height, [], []⟩
def d_One_init : He.DefD := ⟨("One", some "__init__"), "__init__", "One.__init__", defArgs s_One_init, defBody s_One_init, defScope s_One_init, [], []⟩
def d_One_side : He.DefD := ⟨("One", some "side"), "side", "Piece.side", defArgs s_Piece_side, defBody s_Piece_side, defScope s_Piece_side, [], []⟩
def d_One_top : He.DefD := ⟨("One", some "top"), "top", "Piece.top", defArgs s_Piece_top, defBody s_Piece_top, defScope s_Piece_top, [], []⟩
def d_One_lines : He.DefD := ⟨("One", some "lines"), "lines", "Piece.lines", defArgs s_Piece_lines, defBody s_Piece_lines, defScope s_Piece_lines, [], []⟩
def d_One_height : He.DefD := ⟨("One", some "height"), "height", "Piece.height", defArgs s_Piece_height, defBody s_Piece_height, defScope s_Piece_height, [], []⟩
def d_Over_init : He.DefD := ⟨("Over", some "__init__"), "__init__", "Over.__init__", defArgs s_Over_init, defBody s_Over_init, defScope s_Over_init, [], []⟩
def d_Over_side : He.DefD := ⟨("Over", some "side"), "side", "Piece.side", defArgs s_Piece_side, defBody s_Piece_side, defScope s_Piece_side, [], []⟩
def d_Over_top : He.DefD := ⟨("Over", some "top"), "top", "Piece.top", defArgs s_Piece_top, defBody s_Piece_top, defScope s_Piece_top, [], []⟩
def d_Over_lines : He.DefD := ⟨("Over", some "lines"), "lines", "Piece.lines", defArgs s_Piece_lines, defBody s_Piece_lines, defScope s_Piece_lines, [], []⟩
def d_Over_height : He.DefD := ⟨("Over", some "height"), "height", "Piece.height", defArgs s_Piece_height, defBody s_Piece_height, defScope s_Piece_height, [], []⟩
def d_Beside_init : He.DefD := ⟨("Beside", some "__init__"), "__init__", "Beside.__init__", defArgs s_Beside_init, defBody s_Beside_init, defScope s_Beside_init, [], []⟩
def d_Beside_side : He.DefD := ⟨("Beside", some "side"), "side", "Piece.side", defArgs s_Piece_side, defBody s_Piece_side, defScope s_Piece_side, [], []⟩
def d_Beside_top : He.DefD := ⟨("Beside", some "top"), "top", "Piece.top", defArgs s_Piece_top, defBody s_Piece_top, defScope s_Piece_top, [], []⟩
def d_Beside_lines : He.DefD := ⟨("Beside", some "lines"), "lines", "Piece.lines", defArgs s_Piece_lines, defBody s_Piece_lines, defScope s_Piece_lines, [], []⟩
def d_Beside_height : He.DefD := ⟨("Beside", some "height"), "height", "Piece.height", defArgs s_Piece_height, defBody s_Piece_height, defScope s_Piece_height, [], []⟩
def d_Limb_init : He.DefD := ⟨("Limb", some "__init__"), "__init__", "Limb.__init__", defArgs s_Limb_init, defBody s_Limb_init, defScope s_Limb_init, [], []⟩
def d_Limb_rows_from : He.DefD := ⟨("Limb", some "rows_from"), "rows_from", "Limb.rows_from", defArgs s_Limb_rows_from, defBody s_Limb_rows_from, defScope s_Limb_rows_from, [], []⟩
def d_Grower_init : He.DefD := ⟨("Grower", some "__init__"), "__init__", "Grower.__init__", defArgs s_Grower_init, defBody s_Grower_init, defScope s_Grower_init, [], []⟩
def d_Grower_leaf : He.DefD := ⟨("Grower", some "leaf"), "leaf", "Grower.leaf", defArgs s_Grower_leaf, defBody s_Grower_leaf, defScope s_Grower_leaf, [], []⟩
def d_Grower_knot : He.DefD := ⟨("Grower", some "knot"), "knot", "Grower.knot", defArgs s_Grower_knot, defBody s_Grower_knot, defScope s_Grower_knot, [], []⟩
def d_Grower_joined : He.DefD := ⟨("Grower", some "joined"), "joined", "Grower.joined", defArgs s_Grower_joined, defBody s_Grower_joined, defScope s_Grower_joined, [], []⟩
def d_Grower_grown : He.DefD := ⟨("Grower", some "grown"), "grown", "Grower.grown", defArgs s_Grower_grown, defBody s_Grower_grown, defScope s_Grower_grown, [], []⟩
def d_Grower_put : He.DefD := ⟨("Grower", some "put"), "put", "Grower.put", defArgs s_Grower_put, defBody s_Grower_put, defScope s_Grower_put, [], []⟩
def d_Grower_drop : He.DefD := ⟨("Grower", some "drop"), "drop", "Grower.drop", defArgs s_Grower_drop, defBody s_Grower_drop, defScope s_Grower_drop, [], []⟩
def d_Grower_change : He.DefD := ⟨("Grower", some "change"), "change", "Grower.change", defArgs s_Grower_change, defBody s_Grower_change, defScope s_Grower_change, [], []⟩
def d_Kept_init : He.DefD := ⟨("Kept", some "__init__"), "__init__", "Kept.__init__", defArgs s_Kept_init, defBody s_Kept_init, defScope s_Kept_init, [], []⟩
def d_Kept_side : He.DefD := ⟨("Kept", some "side"), "side", "Kept.side", defArgs s_Kept_side, defBody s_Kept_side, defScope s_Kept_side, [], []⟩
def d_Kept_top : He.DefD := ⟨("Kept", some "top"), "top", "Kept.top", defArgs s_Kept_top, defBody s_Kept_top, defScope s_Kept_top, [], []⟩
def d_Kept_lines : He.DefD := ⟨("Kept", some "lines"), "lines", "Kept.lines", defArgs s_Kept_lines, defBody s_Kept_lines, defScope s_Kept_lines, [], []⟩
def d_Kept_pieces : He.DefD := ⟨("Kept", some "pieces"), "pieces", "Kept.pieces", defArgs s_Kept_pieces, defBody s_Kept_pieces, defScope s_Kept_pieces, [], []⟩
def d_Kept_put : He.DefD := ⟨("Kept", some "put"), "put", "Kept.put", defArgs s_Kept_put, defBody s_Kept_put, defScope s_Kept_put, [], []⟩
def d_Kept_drop : He.DefD := ⟨("Kept", some "drop"), "drop", "Kept.drop", defArgs s_Kept_drop, defBody s_Kept_drop, defScope s_Kept_drop, [], []⟩
def d_Kept_change : He.DefD := ⟨("Kept", some "change"), "change", "Kept.change", defArgs s_Kept_change, defBody s_Kept_change, defScope s_Kept_change, [], []⟩
def d_Kept_retop : He.DefD := ⟨("Kept", some "retop"), "retop", "Kept.retop", defArgs s_Kept_retop, defBody s_Kept_retop, defScope s_Kept_retop, [], []⟩
def d_Kept_note : He.DefD := ⟨("Kept", some "note"), "note", "Kept.note", defArgs s_Kept_note, defBody s_Kept_note, defScope s_Kept_note, [], []⟩
def d_Watch_init : He.DefD := ⟨("Watch", some "__init__"), "__init__", "Watch.__init__", defArgs s_Watch_init, defBody s_Watch_init, defScope s_Watch_init, [], []⟩
def d_Watch_side : He.DefD := ⟨("Watch", some "side"), "side", "Watch.side", defArgs s_Watch_side, defBody s_Watch_side, defScope s_Watch_side, [], []⟩
def d_Watch_top : He.DefD := ⟨("Watch", some "top"), "top", "Watch.top", defArgs s_Watch_top, defBody s_Watch_top, defScope s_Watch_top, [], []⟩
def d_Watch_most : He.DefD := ⟨("Watch", some "most"), "most", "Watch.most", defArgs s_Watch_most, defBody s_Watch_most, defScope s_Watch_most, [], []⟩
def d_Watch_told : He.DefD := ⟨("Watch", some "told"), "told", "Watch.told", defArgs s_Watch_told, defBody s_Watch_told, defScope s_Watch_told, [], []⟩
def d_Watch_reckoned : He.DefD := ⟨("Watch", some "reckoned"), "reckoned", "Watch.reckoned", defArgs s_Watch_reckoned, defBody s_Watch_reckoned, defScope s_Watch_reckoned, [], []⟩
def d_Watch_news : He.DefD := ⟨("Watch", some "news"), "news", "Watch.news", defArgs s_Watch_news, defBody s_Watch_news, defScope s_Watch_news, [], []⟩
def d_Watch_rank : He.DefD := ⟨("Watch", some "rank"), "rank", "Watch.rank", defArgs s_Watch_rank, defBody s_Watch_rank, defScope s_Watch_rank, [], []⟩
def d_Watch_row_of : He.DefD := ⟨("Watch", some "row_of"), "row_of", "Watch.row_of", defArgs s_Watch_row_of, defBody s_Watch_row_of, defScope s_Watch_row_of, [], []⟩
def d_Watch_retop : He.DefD := ⟨("Watch", some "retop"), "retop", "Watch.retop", defArgs s_Watch_retop, defBody s_Watch_retop, defScope s_Watch_retop, [], []⟩
def d_Watch_put : He.DefD := ⟨("Watch", some "put"), "put", "Watch.put", defArgs s_Watch_put, defBody s_Watch_put, defScope s_Watch_put, [], []⟩
def d_Watch_drop : He.DefD := ⟨("Watch", some "drop"), "drop", "Watch.drop", defArgs s_Watch_drop, defBody s_Watch_drop, defScope s_Watch_drop, [], []⟩
def d_Watch_change : He.DefD := ⟨("Watch", some "change"), "change", "Watch.change", defArgs s_Watch_change, defBody s_Watch_change, defScope s_Watch_change, [], []⟩
def d_Watch_limit : He.DefD := ⟨("Watch", some "limit"), "limit", "Watch.limit", defArgs s_Watch_limit, defBody s_Watch_limit, defScope s_Watch_limit, [], []⟩
def fn0 : List He.DefD := [d_is_whole, d_is_within, d_is_letter, d_is_row, d_is_plain, d_need_row, d_need_rows, d_need_plain, d_need_span, d_parted, d_unparted, d_is_turning, d_need_turning, d_need_place_turnings, d_straight, d_opposite, d_mixed, d_floors_of, d_lesser, d_need_window, d_worked_through, d_steps_of, d_need_alike, d_laid, d_need_piece, d_need_sign_pieces, d_half_made, d_balanced, d_need_sign_kept, d_need_place_kept]
def fn1 : List He.DefD := [d_need_limit, d_ranked, d_are_wholes, d_is_told, d_is_ranked, d_need_ranked, d_ranks_of, d_difference, d_are_news, d_led, d_followed, d_need_letter, d_need_below, d__law_cell, d__law_drawn, d__law_letters, d__law_row, d__law_costs, d__law_near, d__law_tuples, d__law_news_kind, d__law_ranks, d__law_news, d__law_deed, d__law_chosen, d__law_stretches, d__law_step, d__law_ranked_as, d__law_stands, d_law]
def fn2 : List He.DefD := [d_Tally_init, d_Tally_from_on, d_Tally_below, d_Asks_init, d_Asks_window, d_Asks_stretch, d_Piece_init, d_Piece_side, d_Piece_top, d_Piece_lines, d_Piece_height, d_Blank_init, d_Blank_side, d_Blank_top, d_Blank_lines, d_Blank_height, d_One_init, d_One_side, d_One_top, d_One_lines, d_One_height, d_Over_init, d_Over_side, d_Over_top, d_Over_lines, d_Over_height, d_Beside_init, d_Beside_side, d_Beside_top, d_Beside_lines]
def fn3 : List He.DefD := [d_Beside_height, d_Limb_init, d_Limb_rows_from, d_Grower_init, d_Grower_leaf, d_Grower_knot, d_Grower_joined, d_Grower_grown, d_Grower_put, d_Grower_drop, d_Grower_change, d_Kept_init, d_Kept_side, d_Kept_top, d_Kept_lines, d_Kept_pieces, d_Kept_put, d_Kept_drop, d_Kept_change, d_Kept_retop, d_Kept_note, d_Watch_init, d_Watch_side, d_Watch_top, d_Watch_most, d_Watch_told, d_Watch_reckoned, d_Watch_news, d_Watch_rank, d_Watch_row_of]
def fn4 : List He.DefD := [d_Watch_retop, d_Watch_put, d_Watch_drop, d_Watch_change, d_Watch_limit]
def fn : List He.DefD := fn0 ++ fn1 ++ fn2 ++ fn3 ++ fn4
def fa0 : List He.Fa := [.glo "is_whole", .glo "is_within", .glo "is_letter", .glo "is_row", .glo "is_plain", .glo "need_row", .glo "need_rows", .glo "need_plain", .glo "need_span", .glo "parted", .glo "unparted", .glo "is_turning", .glo "need_turning", .glo "need_place_turnings", .glo "straight", .glo "opposite", .glo "mixed", .glo "floors_of", .glo "lesser", .glo "need_window", .glo "worked_through", .glo "steps_of", .glo "need_alike", .glo "laid", .glo "need_piece", .glo "need_sign_pieces", .glo "half_made", .glo "balanced", .glo "need_sign_kept", .glo "need_place_kept"]
def fa1 : List He.Fa := [.glo "need_limit", .glo "ranked", .glo "are_wholes", .glo "is_told", .glo "is_ranked", .glo "need_ranked", .glo "ranks_of", .glo "difference", .glo "are_news", .glo "led", .glo "followed", .glo "need_letter", .glo "need_below", .glo "_law_cell", .glo "_law_drawn", .glo "_law_letters", .glo "_law_row", .glo "_law_costs", .glo "_law_near", .glo "_law_tuples", .glo "_law_news_kind", .glo "_law_ranks", .glo "_law_news", .glo "_law_deed", .glo "_law_chosen", .glo "_law_stretches", .glo "_law_step", .glo "_law_ranked_as", .glo "_law_stands", .glo "law"]
def fa2 : List He.Fa := [.glo "Tally", .glo "Asks", .glo "Piece", .glo "Blank", .glo "One", .glo "Over", .glo "Beside", .glo "Limb", .glo "Grower", .glo "Kept", .glo "Watch", .free "len", .free "isinstance", .free "all", .free "range", .free "list", .free "enumerate", .free "zip", .free "max", .free "min", .free "sorted", .free "int", .free "str", .free "bool", .free "tuple", .str "LETTERS" "abcdefghijklmnopqrstuvwxyz", .int "MOST_SIGNS" 48, .int "MOST_LETTERS" 24, .int "MOST_LINES" 96, .int "MOST_COST" 48]
def fa3 : List He.Fa := [.cls "Tally", .cls "Asks", .cls "Piece", .cls "Blank", .cls "One", .cls "Over", .cls "Beside", .cls "Limb", .cls "Grower", .cls "Kept", .cls "Watch", .noat "Tally" "many", .noat "Tally" "floors", .noat "Asks" "tall", .noat "Asks" "wide", .noat "Asks" "tally", .noat "Asks" "goals", .noat "Asks" "starts", .noat "Piece" "left_edge", .noat "Piece" "upper_edge", .noat "Piece" "known", .noat "Piece" "made_of", .noat "Piece" "levels", .noat "Blank" "left_edge", .noat "Blank" "upper_edge", .noat "Blank" "known", .noat "Blank" "made_of", .noat "Blank" "levels", .noat "One" "left_edge", .noat "One" "upper_edge"]
def fa4 : List He.Fa := [.noat "One" "known", .noat "One" "made_of", .noat "One" "levels", .noat "Over" "left_edge", .noat "Over" "upper_edge", .noat "Over" "known", .noat "Over" "made_of", .noat "Over" "levels", .noat "Beside" "left_edge", .noat "Beside" "upper_edge", .noat "Beside" "known", .noat "Beside" "made_of", .noat "Beside" "levels", .noat "Limb" "number", .noat "Limb" "piece", .noat "Limb" "upper", .noat "Limb" "lower", .noat "Limb" "many", .noat "Limb" "tall", .noat "Grower" "against", .noat "Grower" "given", .noat "Grower" "strips", .noat "Kept" "grower", .noat "Kept" "root", .noat "Kept" "fresh", .noat "Watch" "kept", .noat "Watch" "limited", .noat "Watch" "rows", .meth "Tally" "from_on", .meth "Tally" "below"]
def fa5 : List He.Fa := [.meth "Asks" "window", .meth "Asks" "stretch", .meth "Piece" "side", .meth "Piece" "top", .meth "Piece" "lines", .meth "Piece" "height", .meth "Blank" "side", .meth "Blank" "top", .meth "Blank" "lines", .meth "Blank" "height", .meth "One" "side", .meth "One" "top", .meth "One" "lines", .meth "One" "height", .meth "Over" "side", .meth "Over" "top", .meth "Over" "lines", .meth "Over" "height", .meth "Beside" "side", .meth "Beside" "top", .meth "Beside" "lines", .meth "Beside" "height", .meth "Limb" "rows_from", .meth "Grower" "leaf", .meth "Grower" "knot", .meth "Grower" "joined", .meth "Grower" "grown", .meth "Grower" "put", .meth "Grower" "drop", .meth "Grower" "change"]
def fa6 : List He.Fa := [.meth "Kept" "side", .meth "Kept" "top", .meth "Kept" "lines", .meth "Kept" "pieces", .meth "Kept" "put", .meth "Kept" "drop", .meth "Kept" "change", .meth "Kept" "retop", .meth "Kept" "note", .meth "Watch" "side", .meth "Watch" "top", .meth "Watch" "most", .meth "Watch" "told", .meth "Watch" "reckoned", .meth "Watch" "news", .meth "Watch" "rank", .meth "Watch" "row_of", .meth "Watch" "retop", .meth "Watch" "put", .meth "Watch" "drop", .meth "Watch" "change", .meth "Watch" "limit", .mkr "Tally", .mkr "Asks", .mkr "Piece", .mkr "Blank", .mkr "One", .mkr "Over", .mkr "Beside", .mkr "Limb"]
def fa7 : List He.Fa := [.mkr "Grower", .mkr "Kept", .mkr "Watch"]
def fa : List He.Fa := fa0 ++ fa1 ++ fa2 ++ fa3 ++ fa4 ++ fa5 ++ fa6 ++ fa7
def loose0 : List PySem.Str := ["_wall", "PaneError", "NoRow", "NoPlain", "NoLetter", "NoPlace", "NoSpan", "NoTurning", "NoWindow", "NoPiece", "Unlike", "TooLong", "NoPart", "NoNear", "NoTold", "LETTERS", "MOST_SIGNS", "MOST_LETTERS", "is_whole", "is_within", "is_letter", "is_row", "is_plain", "need_row", "need_rows", "need_plain", "need_span", "parted", "unparted", "MOST_LINES"]
def loose1 : List PySem.Str := ["is_turning", "need_turning", "need_place", "need_place_turnings", "straight", "opposite", "mixed", "floors_of", "lesser", "Tally", "need_window", "Asks", "worked_through", "steps_of", "need_alike", "laid", "Piece", "need_piece", "need_sign", "need_sign_pieces", "Blank", "One", "Over", "Beside", "half_made", "balanced", "Limb", "Grower", "need_sign_kept", "need_place_kept"]
def loose2 : List PySem.Str := ["Kept", "MOST_COST", "need_limit", "ranked", "are_wholes", "is_told", "is_ranked", "need_ranked", "ranks_of", "difference", "are_news", "led", "followed", "need_letter", "need_below", "Watch", "_law_cell", "_law_drawn", "_law_letters", "_law_row", "_law_costs", "_law_near", "_law_tuples", "_law_news_kind", "_law_ranks", "_law_news", "_law_deed", "_law_chosen", "_law_stretches", "_law_step"]
def loose3 : List PySem.Str := ["_law_ranked_as", "_law_stands"]
def loose : List PySem.Str := loose0 ++ loose1 ++ loose2 ++ loose3
def addrs0 : List Addr := [31, 51, 70, 89, 108, 127, 146, 165, 184, 203, 222, 241, 260, 279, 453, 558, 649, 691, 717, 741, 765, 819, 889, 1034, 1234, 0, 1, 2, 3, 6, 24, 30, 37, 50, 56, 69, 75, 88, 94, 107, 113, 126, 132, 145, 151, 164, 170, 183, 189, 202, 208, 221, 227, 240, 246, 259, 265, 278, 411, 452, 467, 557, 593, 648, 670, 690, 696, 716, 722, 740, 746, 764, 784, 818, 826, 888, 910, 1033, 1124, 1233, 19, 21, 46, 48, 65, 67, 84, 86, 103, 105, 122, 124, 141, 143, 160, 162, 179, 181, 198, 200]
def addrs1 : List Addr := [217, 219, 236, 238, 255, 257, 274, 276, 286, 288, 293, 295, 300, 302, 305, 307, 312, 314, 319, 321, 326, 328, 333, 335, 340, 342, 345, 347, 352, 354, 359, 361, 366, 368, 373, 375, 380, 382, 387, 389, 394, 396, 399, 401, 406, 408, 420, 422, 427, 429, 434, 436, 441, 443, 448, 450, 462, 464, 476, 478, 483, 485, 490, 492, 497, 499, 504, 506, 511, 513, 518, 520, 525, 527, 532, 534, 539, 541, 546, 548, 553, 555, 567, 569, 574, 576, 581, 583, 588, 590, 602, 604, 609, 611, 616, 618, 623, 625, 630, 632]
def addrs2 : List Addr := [637, 639, 644, 646, 658, 660, 665, 667, 679, 681, 686, 688, 705, 707, 712, 714, 729, 731, 736, 738, 753, 755, 760, 762, 772, 774, 779, 781, 793, 795, 800, 802, 807, 809, 814, 816, 835, 837, 842, 844, 849, 851, 856, 858, 863, 865, 870, 872, 877, 879, 884, 886, 898, 900, 905, 907, 919, 921, 926, 928, 933, 935, 940, 942, 947, 949, 954, 956, 961, 963, 968, 970, 975, 977, 982, 984, 989, 991, 996, 998, 1003, 1005, 1010, 1012, 1017, 1019, 1022, 1024, 1029, 1031, 1043, 1045, 1050, 1052, 1055, 1057, 1062, 1064, 1069, 1071]
def addrs3 : List Addr := [1076, 1078, 1083, 1085, 1088, 1090, 1093, 1095, 1098, 1100, 1105, 1107, 1112, 1114, 1119, 1121, 1133, 1135, 1140, 1142, 1147, 1149, 1154, 1156, 1161, 1163, 1166, 1168, 1173, 1175, 1180, 1182, 1187, 1189, 1194, 1196, 1201, 1203, 1208, 1210, 1215, 1217, 1222, 1224, 1229, 1231, 1243, 1245, 1250, 1252, 1255, 1257, 1260, 1262, 1267, 1269, 1274, 1276, 1279, 1281, 1286, 1288, 1293, 1295, 1298, 1300, 1305, 1307, 1312, 1314, 1319, 1321, 1326, 1328, 1333, 1335, 1340, 1342, 1347, 1349, 9, 13, 20, 23, 27, 32, 33, 34, 36, 40, 47, 52, 53, 55, 59, 66, 71, 72, 74, 78]
def addrs4 : List Addr := [85, 90, 91, 93, 97, 104, 109, 110, 112, 116, 123, 128, 129, 131, 135, 142, 147, 148, 150, 154, 161, 166, 167, 169, 173, 180, 185, 186, 188, 192, 199, 204, 205, 207, 211, 218, 223, 224, 226, 230, 237, 242, 243, 245, 249, 256, 261, 262, 264, 268, 275, 280, 281, 287, 294, 301, 306, 313, 320, 327, 334, 341, 346, 353, 360, 367, 374, 381, 388, 395, 400, 407, 410, 414, 421, 428, 435, 442, 449, 454, 455, 456, 457, 463, 466, 470, 477, 484, 491, 498, 505, 512, 519, 526, 533, 540, 547, 554, 559, 560]
def addrs5 : List Addr := [561, 562, 568, 575, 582, 589, 592, 596, 603, 610, 617, 624, 631, 638, 645, 650, 651, 652, 653, 659, 666, 669, 673, 680, 687, 692, 693, 695, 699, 706, 713, 718, 719, 721, 725, 730, 737, 742, 743, 745, 749, 754, 761, 766, 767, 773, 780, 783, 787, 794, 801, 808, 815, 820, 821, 822, 823, 825, 829, 836, 843, 850, 857, 864, 871, 878, 885, 890, 891, 892, 893, 899, 906, 909, 913, 920, 927, 934, 941, 948, 955, 962, 969, 976, 983, 990, 997, 1004, 1011, 1018, 1023, 1030, 1035, 1036, 1037, 1038, 1044, 1051, 1056, 1063]
def addrs6 : List Addr := [1070, 1077, 1084, 1089, 1094, 1099, 1106, 1113, 1120, 1123, 1127, 1134, 1141, 1148, 1155, 1162, 1167, 1174, 1181, 1188, 1195, 1202, 1209, 1216, 1223, 1230, 1235, 1236, 1237, 1238, 1244, 1251, 1256, 1261, 1268, 1275, 1280, 1287, 1294, 1299, 1306, 1313, 1320, 1327, 1334, 1341, 1348]
def addrs : List Addr := addrs0 ++ addrs1 ++ addrs2 ++ addrs3 ++ addrs4 ++ addrs5 ++ addrs6
def ex (K : PySem.W.Frag) : Bool :=
  (["Blank", "One", "Over", "Beside"] : List Str).all (fun c => decide (PySem.W.kitOne K (.ref (He.ga K c)) (.ref (He.ga K "Piece")) = some true) &&
    (He.eqO (PySem.W.findIn K (.ref (He.ga K c)) "__class__") (some (some (.builtin "object.__class__"))) &&
      decide (PySem.W.mroIn K (He.ga K c) (.type "object") = some true))) &&
  (He.eqO (PySem.W.specialIn K (.builtin "object.__class__") "__get__") (some (some (.builtin "getset_descriptor.__get__"))) &&
  (decide (PySem.W.takesIn K (.builtin "object.__class__") = some true) &&
  (PySem.W.readsIn K (He.ga K "Piece") (.type "type") &&
  (He.eqO (PySem.W.specialIn K (.ref (He.ga K "Piece")) "__getattribute__") (some (some (.builtin "type.__getattribute__"))) &&
  (match PySem.W.findCls K (.ref (He.ga K "Piece")) (.type "type") "__init__" with
    | some (.val u) => decide (u = .ref (He.ma K (He.ga K "Piece") "__init__"))
    | _ => false)))))
def SaysL (K : PySem.W.Frag) : Prop := He.SaysD fa fn K ∧ ex K = true
end Pt
end
section
set_option maxRecDepth 100000
set_option maxHeartbeats 0
namespace Pt.Hd
open PySem PySem.W PySem.Calls PyProof.Rows HandSHeadRun
abbrev R : PySem.W.OpenRow := PySem.W.OpenLaw.row PySem.Challenge.rw_panethread_k70_whole_watch
abbrev AlL : Type := He.AlD × Bool
def obsL (g : Addr → Option Obj) : AlL := (He.obsD fa fn (He.frG g addrs), ex (He.frG g addrs))
def hk : PySem.W.Hook where
  α := AlL
  obs := fun s => obsL s.heap.get?
  val := fun _ => (He.valD fn, true)
  says := fun _ h => ∃ K : PySem.W.Frag, K.In h ∧ SaysL K
  of := fun _ _ e => ⟨_, He.frG_in, congrArg Prod.fst e, congrArg Prod.snd e⟩
  keeps := fun _ _ _ ⟨K, hK, c⟩ k => ⟨K, PySem.W.Frag.In.keeps hK k, c⟩
def ob (s : PySem.W.SharedT) : AlL := obsL (HandSHeadRun.getT s)
theorem ob_eq (s : PySem.W.SharedT) : ob s = hk.obs s.abs := by
  have e : HandSHeadRun.getT s = s.abs.heap.get? := funext (HandSHeadRun.getT_eq s)
  unfold ob
  rw [e]
  rfl
noncomputable abbrev X (w : World) (os : OsState) : Option SharedT := endF (stepQ (denQ tabQ) R.prog w) 40000 R.prog w os
noncomputable abbrev KT (s : SharedT) : Frag := He.frG (getT s) addrs
theorem runA (w : World) (os : OsState) : (X w os).map (fun s => (looksF R.prog (boot_heap w.params) s.abs, seenQ (view R.prog [106]) loose (importedModules R.prog.main.body) (fun s => xlAt (view R.prog [106]) [] s && recOk R.toRowW.records s) s.abs)) = some (true, openGood (view R.prog [106]) loose) := by
  kernel_rfl
theorem runB (w : World) (os : OsState) : (X w os).map (fun s => ((fa.all fun f => f.ok (KT s)) && ex (KT s)) && fn0.all fun d => d.ok (KT s)) = some true := by
  kernel_rfl
theorem runC (w : World) (os : OsState) : (X w os).map (fun s => (fn1.all fun d => d.ok (KT s)) && fn2.all fun d => d.ok (KT s)) = some true := by
  kernel_rfl
theorem runD (w : World) (os : OsState) : (X w os).map (fun s => ((fn3.all fun d => d.ok (KT s)) && fn4.all fun d => d.ok (KT s), fn.map fun d => He.fnW (KT s) d.at_)) = some (true, fn.map He.DefD.val) := by
  kernel_rfl
theorem glue {S A1 A2 C D : Type} {x : Option S} {f1 : S → A1} {f2 : S → A2} {g g2 : S → Bool} {h : S → C} {k : S → D} {a1 : A1} {a2 : A2} {c : C} {d : D} (ha : x.map (fun s => (f1 s, f2 s)) = some (a1, a2)) (hb : x.map g = some true) (hb2 : x.map g2 = some true) (hc : x.map h = some c)
    (hk : ∀ s, g s = true → g2 s = true → h s = c → k s = d) : x.map (fun s => (f1 s, f2 s, k s)) = some (a1, a2, d) := by
  cases x with
  | none => cases ha
  | some s =>
    simp only [Option.map_some, Option.some.injEq, Prod.mk.injEq] at ha hb hb2 hc ⊢
    exact ⟨ha.1, ha.2, hk s hb hb2 hc⟩
theorem run (w : World) : HandSHeadRun.RunEq R (PySem.W.view R.prog [106]) hk ob 40000 loose w := by
  intro os
  refine glue (runA w os) (runB w os) (runC w os) (runD w os) (fun s hb hb2 hc => ?_)
  obtain ⟨b12, b0⟩ := Bool.and_eq_true_iff.mp hb
  obtain ⟨b1, b2⟩ := Bool.and_eq_true_iff.mp b12
  obtain ⟨b3, b4⟩ := Bool.and_eq_true_iff.mp hb2
  obtain ⟨b56, c2⟩ := Prod.mk.inj hc
  obtain ⟨b5, b6⟩ := Bool.and_eq_true_iff.mp b56
  have c1 : (fn.all fun d => d.ok (KT s)) = true := by
    show ((fn0 ++ fn1 ++ fn2 ++ fn3 ++ fn4).all fun d => d.ok (KT s)) = true
    rw [List.all_append, List.all_append, List.all_append, List.all_append, b0, b3, b4, b5, b6]
    rfl
  show ((((fa.all fun f => f.ok (KT s)) && fn.all fun d => d.ok (KT s)), fn.map fun d => He.fnW (KT s) d.at_), ex (KT s)) = ((true, fn.map He.DefD.val), true)
  rw [b1, b2, c1, c2]
  rfl
end Pt.Hd
end
section
set_option maxRecDepth 100000
set_option maxHeartbeats 0
namespace Pt.Hd
open PySem PySem.W PySem.Calls PySem.Spec PyProof.Rows
theorem top_holds (F : ∀ (w : World) (mg : PySem.Str → Option Value) (fa : Addr) (h : Heap), (∃ K : PySem.W.Frag, K.In h ∧ SaysL K) → h.Ns mainGlobals mg → mg ("law" : PySem.Str) = some (.ref fa) →
    ∃ (K : PySem.W.Frag) (fd : FuncData) (sp : L2.Sp), K.In h ∧ (∀ (s : Shared) (u : Value), BindsTo s fd ⟨[u], []⟩ [("_law_script", u)]) ∧
      (∀ (H : L2.Hp) (a : Addr) (ns : List Int), ns.length ≤ 63 → L2.Only H → L2.SqL K H a (ns.map L2.V.int) → sp [.ref a] H (fun v _ => v = .bl true) fun _ _ _ => False) ∧
      ∀ base : Heap, K.In base → base.Ns mainGlobals mg → L2.FnOk (PySem.Challenge.rw_panethread_k70_whole_watch).prog w K mg base L2.CX0 115 fa fd ["_law_script"] sp) : PySem.Challenge.rw_panethread_k70_whole_watch.Holds := by
  w_on; o_law
  refine HandSHeadRun.head_any (r := OpenLaw.row PySem.Challenge.rw_panethread_k70_whole_watch) (q := view (OpenLaw.row PySem.Challenge.rw_panethread_k70_whole_watch).prog [106]) (H := Pt.Hd.hk) (ob := Pt.Hd.ob) (M := 40000) (loose := Pt.loose) (d := HandSHeadRun.topDef (OpenLaw.row PySem.Challenge.rw_panethread_k70_whole_watch).prog 106) (kwd := []) Pt.Hd.ob_eq
    (by kernel_rfl) (fun s => by kernel_rfl) Pt.Hd.run (by kernel_rfl) (by kernel_rfl) (by kernel_rfl) (by rfl) (by first | assumption | decide +kernel) (by decide +kernel) ⟨rfl, rfl, rfl, rfl, rfl, by decide +kernel⟩ ?hw ?hc
  case hw => w_witness2
  case hc =>
    refine L2.walk_ofE (l := PySem.Challenge.rw_panethread_k70_whole_watch) (n := 63) (k := 115) (x := "_law_script") (CX := L2.CX0) rfl (by decide) (by kernel_rfl) ⟨rfl, by decide, by decide⟩ ?F (fun _ _ _ _ z => z)
    intro w mg fa h Y G hmg0
    have hmg : mg ("law" : PySem.Str) = some (.ref fa) := by
      have e : (HandSHeadRun.topDef (OpenLaw.row PySem.Challenge.rw_panethread_k70_whole_watch).prog 106).name = ("law" : PySem.Str) := by kernel_rfl
      rw [← e]
      exact hmg0
    exact F w mg fa h Y G hmg
end Pt.Hd
end
section
set_option maxRecDepth 100000
set_option maxHeartbeats 4000000
namespace Pt
open PySem PySem.Spec PyProof.Rows L2
structure Fn (P : Program) (w : World) (K : PySem.W.Frag) (mg : Str → Option Value) (base : Heap) (x : Str) (ps : List Str) (k : Nat) (sp : Sp) : Prop where
  ex : ∃ (f : Addr) (fd : FuncData), mg x = some (.ref f) ∧ PySem.W.keepIn K (.ref f) = true ∧ Binds K fd ps [] ∧ FnOk P w K mg base CX0 k f fd ps sp
structure Mt (P : Program) (w : World) (K : PySem.W.Frag) (mg : Str → Option Value) (base : Heap) (C : Addr) (m : Str) (ps : List Str) (k : Nat) (sp : Sp) : Prop where
  ex : ∃ (f : Addr) (fd : FuncData), Cls K C ∧ Meth K C m f ∧ Binds K fd ps [] ∧ FnOk P w K mg base CX0 k f fd ps sp
structure Nw (P : Program) (w : World) (K : PySem.W.Frag) (mg : Str → Option Value) (base : Heap) (x : Str) (C : Addr) (ps : List Str) (k : Nat) (sp : Sp) : Prop where
  ex : ∃ (f : Addr) (fd : FuncData), mg x = some (.ref C) ∧ Mk K C f ∧ Binds K fd ps [] ∧ FnOk P w K mg base CX0 k f fd ps sp
structure Ci (P : Program) (w : World) (K : PySem.W.Frag) (mg : Str → Option Value) (base : Heap) (x : Str) (ps : List Str) (k : Nat) (sp : Sp) : Prop where
  ex : ∃ (C f : Addr) (fd : FuncData), mg x = some (.ref C) ∧ ClX.CRead K C (.type "type") ∧ ClX.CVal K C (.type "type") "__init__" (.ref f) (.ref f) ∧ PySem.W.keepIn K (.ref f) = true ∧ Binds K fd ps [] ∧ FnOk P w K mg base CX0 k f fd ps sp
section
variable {X : Cx} {e o : Expr} {es : List Expr} {t : TA} {ta : TE} {x m : Str} {p pos apos : Pos} {ps : List Str} {k : Nat} {sp : Sp} {C : Addr}
abbrev tFn (sp : Sp) (t : TA) : TE := tCall sp [] E0 t
theorem pe_fn (F : Fn X.prog X.w X.K X.mg X.base x ps k sp) (hr : Room k X.A) (ha : PA X (e :: es) t) (hg : Gl X x := by rfl) (hdb : (x == ("__debug__" : Str)) = false := by decide)
    (he : starEach (e :: es) X.env = (false, eval e X.env) :: starEach es X.env := by rfl) (hpl : (backTo pos (starEach es X.env)).any (·.1) = false := by rfl) : PE X (.Call (.Name x p) (e :: es) [] pos) (tFn sp t) := by
  obtain ⟨f, fd, h1, h2, h3, h4⟩ := F.ex
  exact pe_call h4 hr hg h1 h2 h3 .nil pass0 ha hdb he hpl
def tMs (Cs : Addr → Prop) (m : Str) (sp : Sp) (ta : TE) (t : TA) : TE := fun σ H Q => ta σ H fun x H1 => ∃ a C dx fs, x = .ref a ∧ H1 a = some (.ins C dx fs) ∧ Cs C ∧ fs.lookup m = none ∧ t σ H1 fun vs H2 => sp (x :: (vs ++ [])) H2 Q E0
theorem pe_ms {Cs : Addr → Prop} {pl : Sem Bool} (he : PE X o ta) (F : ∀ C, Cs C → Mt X.prog X.w X.K X.mg X.base C m ps k sp) (hr : Room k X.A) (ha : PA X (e :: es) t)
    (hst : starEach (e :: es) X.env = (false, eval e X.env) :: starEach es X.env := by rfl) (hpl : (backTo pos (starEach es X.env)).any (·.1) = false := by rfl)
    (ht : eval (.Call (.Attribute o m apos) (e :: es) [] pos) X.env = (do
      let ov ← eval o X.env
      standAt apos.atName
      let (f, first) ← holding [ov] (getMethod ov m pl)
      callWith pos f first (backTo pos (starEach (e :: es) X.env)) (backToKw pos (keywordEach [] X.env))) := by rfl) :
    PE X (.Call (.Attribute o m apos) (e :: es) [] pos) (tMs Cs m sp ta t) := by
  refine ⟨fun pins s σ H Q I h => ?_⟩
  refine PySem.W.methodCall_KW (pl := pl) (thn (he.run pins s σ H _ I h) fun u s1 ⟨x, H1, I1, rx, a, C, dx, fs, ex, ea, hC, l, q⟩ => ?_) ht
  obtain ⟨f, fd, c, hm, hb, F⟩ := (F C hC).ex
  subst ex
  obtain rfl : u = Value.ref a := rx
  refine getmeth_ok I1 ea c hm l ?_
  refine PySem.W.callWith_K (first := [.ref a]) (h₀ := X.base) I.ok.mod.kin hm.kp (thn (ha.run pos pins s1 σ H1 _ I1 q) fun us s2 ⟨vs, H2, I2, r, q2⟩ => ⟨I2.kIn, ?_⟩) hst hpl
  exact run_fn (us := .ref a :: us) (vs := .ref a :: vs) F hr hb .nil pass0 I2 (.cons rfl r) q2
theorem pe_ms0 {Cs : Addr → Prop} {pl : Sem Bool} (he : PE X o ta) (F : ∀ C, Cs C → Mt X.prog X.w X.K X.mg X.base C m ps k sp) (hr : Room k X.A)
    (ht : eval (.Call (.Attribute o m apos) [] [] pos) X.env = (do
      let ov ← eval o X.env
      standAt apos.atName
      let (f, first) ← holding [ov] (getMethod ov m pl)
      callWith pos f first (backTo pos (starEach [] X.env)) (backToKw pos (keywordEach [] X.env))) := by rfl) :
    PE X (.Call (.Attribute o m apos) [] [] pos) (tMs Cs m sp ta tNil) := by
  refine ⟨fun pins s σ H Q I h => ?_⟩
  refine PySem.W.methodCall_KW (pl := pl) (thn (he.run pins s σ H _ I h) fun u s1 ⟨x, H1, I1, rx, a, C, dx, fs, ex, ea, hC, l, q⟩ => ?_) ht
  obtain ⟨f, fd, c, hm, hb, F⟩ := (F C hC).ex
  subst ex
  obtain rfl : u = Value.ref a := rx
  refine getmeth_ok I1 ea c hm l ?_
  exact PySem.W.callWith_K0 (first := [.ref a]) I1.kIn hm.kp (run_fn (us := [.ref a]) (vs := [.ref a]) F hr hb .nil pass0 I1 (.cons rfl .nil) q)
theorem pe_nw (F : Nw X.prog X.w X.K X.mg X.base x C ps k sp) (hr : Room (k + 1) X.A) (ha : PA X (e :: es) t) (hg : Gl X x := by rfl) (hdb : (x == ("__debug__" : Str)) = false := by decide)
    (he : starEach (e :: es) X.env = (false, eval e X.env) :: starEach es X.env := by rfl) (hpl : (backTo pos (starEach es X.env)).any (·.1) = false := by rfl) : PE X (.Call (.Name x p) (e :: es) [] pos) (tMake C sp [] E0 t) := by
  obtain ⟨f, fd, h1, h2, h3, h4⟩ := F.ex
  exact pe_make h2 h4 hr hg h1 h3 .nil pass0 ha hdb he hpl
theorem pe_ci {pl : Sem Bool} (F : Ci X.prog X.w X.K X.mg X.base x ps k sp) (hr : Room k X.A) (ha : PA X (e :: es) t) (hg : Gl X x := by rfl) (hdb : (x == ("__debug__" : Str)) = false := by decide)
    (hst : starEach (e :: es) X.env = (false, eval e X.env) :: starEach es X.env := by rfl) (hpl : (backTo pos (starEach es X.env)).any (·.1) = false := by rfl)
    (ht : eval (.Call (.Attribute (.Name x p) "__init__" apos) (e :: es) [] pos) X.env = (do
      let ov ← eval (.Name x p) X.env
      standAt apos.atName
      let (f, first) ← holding [ov] (getMethod ov "__init__" pl)
      callWith pos f first (backTo pos (starEach (e :: es) X.env)) (backToKw pos (keywordEach [] X.env))) := by rfl) :
    PE X (.Call (.Attribute (.Name x p) "__init__" apos) (e :: es) [] pos) (tFn sp t) := by
  obtain ⟨C, f, fd, h1, rd, cv, kp, hb, F⟩ := F.ex
  have hx : PE X (.Name x p) (tC (.ref C)) := pe_glob hg h1 rfl hdb
  refine ⟨fun pins s σ H Q I h => ?_⟩
  refine PySem.W.methodCall_KW (pl := pl) (thn (hx.run pins s σ H (fun x H1 => x = .ref C ∧ H1 = H) I ⟨rfl, rfl⟩) fun u s1 ⟨x, H1, I1, rx, ex, eh⟩ => ?_) ht
  subst ex eh
  obtain rfl : u = Value.ref C := rx
  refine PySem.W.method_cls I1.kIn rd.ga (ClX.getcval_ok I1 rd cv fun s2 I2 => ?_)
  refine PySem.W.callWith_K (first := []) (h₀ := X.base) I.ok.mod.kin kp (thn (ha.run pos pins s2 σ H1 _ I2 h) fun us s3 ⟨vs, H2, I3, r, q2⟩ => ⟨I3.kIn, ?_⟩) hst hpl
  exact run_fn (us := us) (vs := vs) F hr hb .nil pass0 I3 r q2
end
end Pt
end
section
set_option maxRecDepth 100000
set_option maxHeartbeats 4000000
namespace Pt
open PySem PySem.Spec PyProof.Rows L2
structure Tx (K : PySem.W.Frag) (mg : Str → Option Value) : Prop where
  at_ : ∃ h : Heap, K.In h ∧ h.Ns mainGlobals mg
  says : SaysL K
section
variable {K : PySem.W.Frag} {mg : Str → Option Value} (T : Tx K mg)
include T
theorem Tx.g_is_whole : mg "is_whole" = some (.ref (He.ga K "is_whole")) := let ⟨_, X, G⟩ := T.at_; He.glo_ok X G (T.says.1.fact 0 (f := .glo "is_whole") rfl)
theorem Tx.D_is_whole : ∃ fd, FunD K "is_whole" "is_whole" (defArgs s_is_whole) (defBody s_is_whole) (defScope s_is_whole) [] [] (He.ga K "is_whole") fd := T.says.1.def_ 0 (d := d_is_whole) rfl
theorem Tx.g_is_within : mg "is_within" = some (.ref (He.ga K "is_within")) := let ⟨_, X, G⟩ := T.at_; He.glo_ok X G (T.says.1.fact 1 (f := .glo "is_within") rfl)
theorem Tx.D_is_within : ∃ fd, FunD K "is_within" "is_within" (defArgs s_is_within) (defBody s_is_within) (defScope s_is_within) [] [] (He.ga K "is_within") fd := T.says.1.def_ 1 (d := d_is_within) rfl
theorem Tx.g_is_letter : mg "is_letter" = some (.ref (He.ga K "is_letter")) := let ⟨_, X, G⟩ := T.at_; He.glo_ok X G (T.says.1.fact 2 (f := .glo "is_letter") rfl)
theorem Tx.D_is_letter : ∃ fd, FunD K "is_letter" "is_letter" (defArgs s_is_letter) (defBody s_is_letter) (defScope s_is_letter) [] [] (He.ga K "is_letter") fd := T.says.1.def_ 2 (d := d_is_letter) rfl
theorem Tx.g_is_row : mg "is_row" = some (.ref (He.ga K "is_row")) := let ⟨_, X, G⟩ := T.at_; He.glo_ok X G (T.says.1.fact 3 (f := .glo "is_row") rfl)
theorem Tx.D_is_row : ∃ fd, FunD K "is_row" "is_row" (defArgs s_is_row) (defBody s_is_row) (defScope s_is_row) [] [] (He.ga K "is_row") fd := T.says.1.def_ 3 (d := d_is_row) rfl
theorem Tx.g_is_plain : mg "is_plain" = some (.ref (He.ga K "is_plain")) := let ⟨_, X, G⟩ := T.at_; He.glo_ok X G (T.says.1.fact 4 (f := .glo "is_plain") rfl)
theorem Tx.D_is_plain : ∃ fd, FunD K "is_plain" "is_plain" (defArgs s_is_plain) (defBody s_is_plain) (defScope s_is_plain) [] [] (He.ga K "is_plain") fd := T.says.1.def_ 4 (d := d_is_plain) rfl
theorem Tx.g_need_row : mg "need_row" = some (.ref (He.ga K "need_row")) := let ⟨_, X, G⟩ := T.at_; He.glo_ok X G (T.says.1.fact 5 (f := .glo "need_row") rfl)
theorem Tx.D_need_row : ∃ fd, FunD K "need_row" "need_row" (defArgs s_need_row) (defBody s_need_row) (defScope s_need_row) [] [] (He.ga K "need_row") fd := T.says.1.def_ 5 (d := d_need_row) rfl
theorem Tx.g_need_rows : mg "need_rows" = some (.ref (He.ga K "need_rows")) := let ⟨_, X, G⟩ := T.at_; He.glo_ok X G (T.says.1.fact 6 (f := .glo "need_rows") rfl)
theorem Tx.D_need_rows : ∃ fd, FunD K "need_rows" "need_rows" (defArgs s_need_rows) (defBody s_need_rows) (defScope s_need_rows) [] [] (He.ga K "need_rows") fd := T.says.1.def_ 6 (d := d_need_rows) rfl
theorem Tx.g_need_plain : mg "need_plain" = some (.ref (He.ga K "need_plain")) := let ⟨_, X, G⟩ := T.at_; He.glo_ok X G (T.says.1.fact 7 (f := .glo "need_plain") rfl)
theorem Tx.D_need_plain : ∃ fd, FunD K "need_plain" "need_plain" (defArgs s_need_plain) (defBody s_need_plain) (defScope s_need_plain) [] [] (He.ga K "need_plain") fd := T.says.1.def_ 7 (d := d_need_plain) rfl
theorem Tx.g_need_span : mg "need_span" = some (.ref (He.ga K "need_span")) := let ⟨_, X, G⟩ := T.at_; He.glo_ok X G (T.says.1.fact 8 (f := .glo "need_span") rfl)
theorem Tx.D_need_span : ∃ fd, FunD K "need_span" "need_span" (defArgs s_need_span) (defBody s_need_span) (defScope s_need_span) [] [] (He.ga K "need_span") fd := T.says.1.def_ 8 (d := d_need_span) rfl
theorem Tx.g_parted : mg "parted" = some (.ref (He.ga K "parted")) := let ⟨_, X, G⟩ := T.at_; He.glo_ok X G (T.says.1.fact 9 (f := .glo "parted") rfl)
theorem Tx.D_parted : ∃ fd, FunD K "parted" "parted" (defArgs s_parted) (defBody s_parted) (defScope s_parted) [] [] (He.ga K "parted") fd := T.says.1.def_ 9 (d := d_parted) rfl
theorem Tx.g_unparted : mg "unparted" = some (.ref (He.ga K "unparted")) := let ⟨_, X, G⟩ := T.at_; He.glo_ok X G (T.says.1.fact 10 (f := .glo "unparted") rfl)
theorem Tx.D_unparted : ∃ fd, FunD K "unparted" "unparted" (defArgs s_unparted) (defBody s_unparted) (defScope s_unparted) [] [] (He.ga K "unparted") fd := T.says.1.def_ 10 (d := d_unparted) rfl
theorem Tx.g_is_turning : mg "is_turning" = some (.ref (He.ga K "is_turning")) := let ⟨_, X, G⟩ := T.at_; He.glo_ok X G (T.says.1.fact 11 (f := .glo "is_turning") rfl)
theorem Tx.D_is_turning : ∃ fd, FunD K "is_turning" "is_turning" (defArgs s_is_turning) (defBody s_is_turning) (defScope s_is_turning) [] [] (He.ga K "is_turning") fd := T.says.1.def_ 11 (d := d_is_turning) rfl
theorem Tx.g_need_turning : mg "need_turning" = some (.ref (He.ga K "need_turning")) := let ⟨_, X, G⟩ := T.at_; He.glo_ok X G (T.says.1.fact 12 (f := .glo "need_turning") rfl)
theorem Tx.D_need_turning : ∃ fd, FunD K "need_turning" "need_turning" (defArgs s_need_turning) (defBody s_need_turning) (defScope s_need_turning) [] [] (He.ga K "need_turning") fd := T.says.1.def_ 12 (d := d_need_turning) rfl
theorem Tx.g_need_place_turnings : mg "need_place_turnings" = some (.ref (He.ga K "need_place_turnings")) := let ⟨_, X, G⟩ := T.at_; He.glo_ok X G (T.says.1.fact 13 (f := .glo "need_place_turnings") rfl)
theorem Tx.D_need_place_turnings : ∃ fd, FunD K "need_place" "need_place" (defArgs s_need_place_turnings) (defBody s_need_place_turnings) (defScope s_need_place_turnings) [] [] (He.ga K "need_place_turnings") fd := T.says.1.def_ 13 (d := d_need_place_turnings) rfl
theorem Tx.g_straight : mg "straight" = some (.ref (He.ga K "straight")) := let ⟨_, X, G⟩ := T.at_; He.glo_ok X G (T.says.1.fact 14 (f := .glo "straight") rfl)
theorem Tx.D_straight : ∃ fd, FunD K "straight" "straight" (defArgs s_straight) (defBody s_straight) (defScope s_straight) [] [] (He.ga K "straight") fd := T.says.1.def_ 14 (d := d_straight) rfl
theorem Tx.g_opposite : mg "opposite" = some (.ref (He.ga K "opposite")) := let ⟨_, X, G⟩ := T.at_; He.glo_ok X G (T.says.1.fact 15 (f := .glo "opposite") rfl)
theorem Tx.D_opposite : ∃ fd, FunD K "opposite" "opposite" (defArgs s_opposite) (defBody s_opposite) (defScope s_opposite) [] [] (He.ga K "opposite") fd := T.says.1.def_ 15 (d := d_opposite) rfl
theorem Tx.g_mixed : mg "mixed" = some (.ref (He.ga K "mixed")) := let ⟨_, X, G⟩ := T.at_; He.glo_ok X G (T.says.1.fact 16 (f := .glo "mixed") rfl)
theorem Tx.D_mixed : ∃ fd, FunD K "mixed" "mixed" (defArgs s_mixed) (defBody s_mixed) (defScope s_mixed) [] [] (He.ga K "mixed") fd := T.says.1.def_ 16 (d := d_mixed) rfl
theorem Tx.g_floors_of : mg "floors_of" = some (.ref (He.ga K "floors_of")) := let ⟨_, X, G⟩ := T.at_; He.glo_ok X G (T.says.1.fact 17 (f := .glo "floors_of") rfl)
theorem Tx.D_floors_of : ∃ fd, FunD K "floors_of" "floors_of" (defArgs s_floors_of) (defBody s_floors_of) (defScope s_floors_of) [] [] (He.ga K "floors_of") fd := T.says.1.def_ 17 (d := d_floors_of) rfl
theorem Tx.g_lesser : mg "lesser" = some (.ref (He.ga K "lesser")) := let ⟨_, X, G⟩ := T.at_; He.glo_ok X G (T.says.1.fact 18 (f := .glo "lesser") rfl)
theorem Tx.D_lesser : ∃ fd, FunD K "lesser" "lesser" (defArgs s_lesser) (defBody s_lesser) (defScope s_lesser) [] [] (He.ga K "lesser") fd := T.says.1.def_ 18 (d := d_lesser) rfl
theorem Tx.g_need_window : mg "need_window" = some (.ref (He.ga K "need_window")) := let ⟨_, X, G⟩ := T.at_; He.glo_ok X G (T.says.1.fact 19 (f := .glo "need_window") rfl)
theorem Tx.D_need_window : ∃ fd, FunD K "need_window" "need_window" (defArgs s_need_window) (defBody s_need_window) (defScope s_need_window) [] [] (He.ga K "need_window") fd := T.says.1.def_ 19 (d := d_need_window) rfl
theorem Tx.g_worked_through : mg "worked_through" = some (.ref (He.ga K "worked_through")) := let ⟨_, X, G⟩ := T.at_; He.glo_ok X G (T.says.1.fact 20 (f := .glo "worked_through") rfl)
theorem Tx.D_worked_through : ∃ fd, FunD K "worked_through" "worked_through" (defArgs s_worked_through) (defBody s_worked_through) (defScope s_worked_through) [] [] (He.ga K "worked_through") fd := T.says.1.def_ 20 (d := d_worked_through) rfl
theorem Tx.g_steps_of : mg "steps_of" = some (.ref (He.ga K "steps_of")) := let ⟨_, X, G⟩ := T.at_; He.glo_ok X G (T.says.1.fact 21 (f := .glo "steps_of") rfl)
theorem Tx.D_steps_of : ∃ fd, FunD K "steps_of" "steps_of" (defArgs s_steps_of) (defBody s_steps_of) (defScope s_steps_of) [] [] (He.ga K "steps_of") fd := T.says.1.def_ 21 (d := d_steps_of) rfl
theorem Tx.g_need_alike : mg "need_alike" = some (.ref (He.ga K "need_alike")) := let ⟨_, X, G⟩ := T.at_; He.glo_ok X G (T.says.1.fact 22 (f := .glo "need_alike") rfl)
theorem Tx.D_need_alike : ∃ fd, FunD K "need_alike" "need_alike" (defArgs s_need_alike) (defBody s_need_alike) (defScope s_need_alike) [] [] (He.ga K "need_alike") fd := T.says.1.def_ 22 (d := d_need_alike) rfl
theorem Tx.g_laid : mg "laid" = some (.ref (He.ga K "laid")) := let ⟨_, X, G⟩ := T.at_; He.glo_ok X G (T.says.1.fact 23 (f := .glo "laid") rfl)
theorem Tx.D_laid : ∃ fd, FunD K "laid" "laid" (defArgs s_laid) (defBody s_laid) (defScope s_laid) [] [] (He.ga K "laid") fd := T.says.1.def_ 23 (d := d_laid) rfl
theorem Tx.g_need_piece : mg "need_piece" = some (.ref (He.ga K "need_piece")) := let ⟨_, X, G⟩ := T.at_; He.glo_ok X G (T.says.1.fact 24 (f := .glo "need_piece") rfl)
theorem Tx.D_need_piece : ∃ fd, FunD K "need_piece" "need_piece" (defArgs s_need_piece) (defBody s_need_piece) (defScope s_need_piece) [] [] (He.ga K "need_piece") fd := T.says.1.def_ 24 (d := d_need_piece) rfl
theorem Tx.g_need_sign_pieces : mg "need_sign_pieces" = some (.ref (He.ga K "need_sign_pieces")) := let ⟨_, X, G⟩ := T.at_; He.glo_ok X G (T.says.1.fact 25 (f := .glo "need_sign_pieces") rfl)
theorem Tx.D_need_sign_pieces : ∃ fd, FunD K "need_sign" "need_sign" (defArgs s_need_sign_pieces) (defBody s_need_sign_pieces) (defScope s_need_sign_pieces) [] [] (He.ga K "need_sign_pieces") fd := T.says.1.def_ 25 (d := d_need_sign_pieces) rfl
theorem Tx.g_half_made : mg "half_made" = some (.ref (He.ga K "half_made")) := let ⟨_, X, G⟩ := T.at_; He.glo_ok X G (T.says.1.fact 26 (f := .glo "half_made") rfl)
theorem Tx.D_half_made : ∃ fd, FunD K "half_made" "half_made" (defArgs s_half_made) (defBody s_half_made) (defScope s_half_made) [] [] (He.ga K "half_made") fd := T.says.1.def_ 26 (d := d_half_made) rfl
theorem Tx.g_balanced : mg "balanced" = some (.ref (He.ga K "balanced")) := let ⟨_, X, G⟩ := T.at_; He.glo_ok X G (T.says.1.fact 27 (f := .glo "balanced") rfl)
theorem Tx.D_balanced : ∃ fd, FunD K "balanced" "balanced" (defArgs s_balanced) (defBody s_balanced) (defScope s_balanced) [] [] (He.ga K "balanced") fd := T.says.1.def_ 27 (d := d_balanced) rfl
theorem Tx.g_need_sign_kept : mg "need_sign_kept" = some (.ref (He.ga K "need_sign_kept")) := let ⟨_, X, G⟩ := T.at_; He.glo_ok X G (T.says.1.fact 28 (f := .glo "need_sign_kept") rfl)
theorem Tx.D_need_sign_kept : ∃ fd, FunD K "need_sign" "need_sign" (defArgs s_need_sign_kept) (defBody s_need_sign_kept) (defScope s_need_sign_kept) [] [] (He.ga K "need_sign_kept") fd := T.says.1.def_ 28 (d := d_need_sign_kept) rfl
theorem Tx.g_need_place_kept : mg "need_place_kept" = some (.ref (He.ga K "need_place_kept")) := let ⟨_, X, G⟩ := T.at_; He.glo_ok X G (T.says.1.fact 29 (f := .glo "need_place_kept") rfl)
theorem Tx.D_need_place_kept : ∃ fd, FunD K "need_place" "need_place" (defArgs s_need_place_kept) (defBody s_need_place_kept) (defScope s_need_place_kept) [] [] (He.ga K "need_place_kept") fd := T.says.1.def_ 29 (d := d_need_place_kept) rfl
theorem Tx.g_need_limit : mg "need_limit" = some (.ref (He.ga K "need_limit")) := let ⟨_, X, G⟩ := T.at_; He.glo_ok X G (T.says.1.fact 30 (f := .glo "need_limit") rfl)
theorem Tx.D_need_limit : ∃ fd, FunD K "need_limit" "need_limit" (defArgs s_need_limit) (defBody s_need_limit) (defScope s_need_limit) [] [] (He.ga K "need_limit") fd := T.says.1.def_ 30 (d := d_need_limit) rfl
theorem Tx.g_ranked : mg "ranked" = some (.ref (He.ga K "ranked")) := let ⟨_, X, G⟩ := T.at_; He.glo_ok X G (T.says.1.fact 31 (f := .glo "ranked") rfl)
theorem Tx.D_ranked : ∃ fd, FunD K "ranked" "ranked" (defArgs s_ranked) (defBody s_ranked) (defScope s_ranked) [] [] (He.ga K "ranked") fd := T.says.1.def_ 31 (d := d_ranked) rfl
theorem Tx.g_are_wholes : mg "are_wholes" = some (.ref (He.ga K "are_wholes")) := let ⟨_, X, G⟩ := T.at_; He.glo_ok X G (T.says.1.fact 32 (f := .glo "are_wholes") rfl)
theorem Tx.D_are_wholes : ∃ fd, FunD K "are_wholes" "are_wholes" (defArgs s_are_wholes) (defBody s_are_wholes) (defScope s_are_wholes) [] [] (He.ga K "are_wholes") fd := T.says.1.def_ 32 (d := d_are_wholes) rfl
theorem Tx.g_is_told : mg "is_told" = some (.ref (He.ga K "is_told")) := let ⟨_, X, G⟩ := T.at_; He.glo_ok X G (T.says.1.fact 33 (f := .glo "is_told") rfl)
theorem Tx.D_is_told : ∃ fd, FunD K "is_told" "is_told" (defArgs s_is_told) (defBody s_is_told) (defScope s_is_told) [] [] (He.ga K "is_told") fd := T.says.1.def_ 33 (d := d_is_told) rfl
theorem Tx.g_is_ranked : mg "is_ranked" = some (.ref (He.ga K "is_ranked")) := let ⟨_, X, G⟩ := T.at_; He.glo_ok X G (T.says.1.fact 34 (f := .glo "is_ranked") rfl)
theorem Tx.D_is_ranked : ∃ fd, FunD K "is_ranked" "is_ranked" (defArgs s_is_ranked) (defBody s_is_ranked) (defScope s_is_ranked) [] [] (He.ga K "is_ranked") fd := T.says.1.def_ 34 (d := d_is_ranked) rfl
theorem Tx.g_need_ranked : mg "need_ranked" = some (.ref (He.ga K "need_ranked")) := let ⟨_, X, G⟩ := T.at_; He.glo_ok X G (T.says.1.fact 35 (f := .glo "need_ranked") rfl)
theorem Tx.D_need_ranked : ∃ fd, FunD K "need_ranked" "need_ranked" (defArgs s_need_ranked) (defBody s_need_ranked) (defScope s_need_ranked) [] [] (He.ga K "need_ranked") fd := T.says.1.def_ 35 (d := d_need_ranked) rfl
theorem Tx.g_ranks_of : mg "ranks_of" = some (.ref (He.ga K "ranks_of")) := let ⟨_, X, G⟩ := T.at_; He.glo_ok X G (T.says.1.fact 36 (f := .glo "ranks_of") rfl)
theorem Tx.D_ranks_of : ∃ fd, FunD K "ranks_of" "ranks_of" (defArgs s_ranks_of) (defBody s_ranks_of) (defScope s_ranks_of) [] [] (He.ga K "ranks_of") fd := T.says.1.def_ 36 (d := d_ranks_of) rfl
theorem Tx.g_difference : mg "difference" = some (.ref (He.ga K "difference")) := let ⟨_, X, G⟩ := T.at_; He.glo_ok X G (T.says.1.fact 37 (f := .glo "difference") rfl)
theorem Tx.D_difference : ∃ fd, FunD K "difference" "difference" (defArgs s_difference) (defBody s_difference) (defScope s_difference) [] [] (He.ga K "difference") fd := T.says.1.def_ 37 (d := d_difference) rfl
theorem Tx.g_are_news : mg "are_news" = some (.ref (He.ga K "are_news")) := let ⟨_, X, G⟩ := T.at_; He.glo_ok X G (T.says.1.fact 38 (f := .glo "are_news") rfl)
theorem Tx.D_are_news : ∃ fd, FunD K "are_news" "are_news" (defArgs s_are_news) (defBody s_are_news) (defScope s_are_news) [] [] (He.ga K "are_news") fd := T.says.1.def_ 38 (d := d_are_news) rfl
theorem Tx.g_led : mg "led" = some (.ref (He.ga K "led")) := let ⟨_, X, G⟩ := T.at_; He.glo_ok X G (T.says.1.fact 39 (f := .glo "led") rfl)
theorem Tx.D_led : ∃ fd, FunD K "led" "led" (defArgs s_led) (defBody s_led) (defScope s_led) [] [] (He.ga K "led") fd := T.says.1.def_ 39 (d := d_led) rfl
theorem Tx.g_followed : mg "followed" = some (.ref (He.ga K "followed")) := let ⟨_, X, G⟩ := T.at_; He.glo_ok X G (T.says.1.fact 40 (f := .glo "followed") rfl)
theorem Tx.D_followed : ∃ fd, FunD K "followed" "followed" (defArgs s_followed) (defBody s_followed) (defScope s_followed) [] [] (He.ga K "followed") fd := T.says.1.def_ 40 (d := d_followed) rfl
theorem Tx.g_need_letter : mg "need_letter" = some (.ref (He.ga K "need_letter")) := let ⟨_, X, G⟩ := T.at_; He.glo_ok X G (T.says.1.fact 41 (f := .glo "need_letter") rfl)
theorem Tx.D_need_letter : ∃ fd, FunD K "need_letter" "need_letter" (defArgs s_need_letter) (defBody s_need_letter) (defScope s_need_letter) [] [] (He.ga K "need_letter") fd := T.says.1.def_ 41 (d := d_need_letter) rfl
theorem Tx.g_need_below : mg "need_below" = some (.ref (He.ga K "need_below")) := let ⟨_, X, G⟩ := T.at_; He.glo_ok X G (T.says.1.fact 42 (f := .glo "need_below") rfl)
theorem Tx.D_need_below : ∃ fd, FunD K "need_below" "need_below" (defArgs s_need_below) (defBody s_need_below) (defScope s_need_below) [] [] (He.ga K "need_below") fd := T.says.1.def_ 42 (d := d_need_below) rfl
theorem Tx.g__law_cell : mg "_law_cell" = some (.ref (He.ga K "_law_cell")) := let ⟨_, X, G⟩ := T.at_; He.glo_ok X G (T.says.1.fact 43 (f := .glo "_law_cell") rfl)
theorem Tx.D__law_cell : ∃ fd, FunD K "_law_cell" "_law_cell" (defArgs s__law_cell) (defBody s__law_cell) (defScope s__law_cell) [] [] (He.ga K "_law_cell") fd := T.says.1.def_ 43 (d := d__law_cell) rfl
theorem Tx.g__law_drawn : mg "_law_drawn" = some (.ref (He.ga K "_law_drawn")) := let ⟨_, X, G⟩ := T.at_; He.glo_ok X G (T.says.1.fact 44 (f := .glo "_law_drawn") rfl)
theorem Tx.D__law_drawn : ∃ fd, FunD K "_law_drawn" "_law_drawn" (defArgs s__law_drawn) (defBody s__law_drawn) (defScope s__law_drawn) [] [] (He.ga K "_law_drawn") fd := T.says.1.def_ 44 (d := d__law_drawn) rfl
theorem Tx.g__law_letters : mg "_law_letters" = some (.ref (He.ga K "_law_letters")) := let ⟨_, X, G⟩ := T.at_; He.glo_ok X G (T.says.1.fact 45 (f := .glo "_law_letters") rfl)
theorem Tx.D__law_letters : ∃ fd, FunD K "_law_letters" "_law_letters" (defArgs s__law_letters) (defBody s__law_letters) (defScope s__law_letters) [] [] (He.ga K "_law_letters") fd := T.says.1.def_ 45 (d := d__law_letters) rfl
theorem Tx.g__law_row : mg "_law_row" = some (.ref (He.ga K "_law_row")) := let ⟨_, X, G⟩ := T.at_; He.glo_ok X G (T.says.1.fact 46 (f := .glo "_law_row") rfl)
theorem Tx.D__law_row : ∃ fd, FunD K "_law_row" "_law_row" (defArgs s__law_row) (defBody s__law_row) (defScope s__law_row) [] [] (He.ga K "_law_row") fd := T.says.1.def_ 46 (d := d__law_row) rfl
theorem Tx.g__law_costs : mg "_law_costs" = some (.ref (He.ga K "_law_costs")) := let ⟨_, X, G⟩ := T.at_; He.glo_ok X G (T.says.1.fact 47 (f := .glo "_law_costs") rfl)
theorem Tx.D__law_costs : ∃ fd, FunD K "_law_costs" "_law_costs" (defArgs s__law_costs) (defBody s__law_costs) (defScope s__law_costs) [] [] (He.ga K "_law_costs") fd := T.says.1.def_ 47 (d := d__law_costs) rfl
theorem Tx.g__law_near : mg "_law_near" = some (.ref (He.ga K "_law_near")) := let ⟨_, X, G⟩ := T.at_; He.glo_ok X G (T.says.1.fact 48 (f := .glo "_law_near") rfl)
theorem Tx.D__law_near : ∃ fd, FunD K "_law_near" "_law_near" (defArgs s__law_near) (defBody s__law_near) (defScope s__law_near) [] [] (He.ga K "_law_near") fd := T.says.1.def_ 48 (d := d__law_near) rfl
theorem Tx.g__law_tuples : mg "_law_tuples" = some (.ref (He.ga K "_law_tuples")) := let ⟨_, X, G⟩ := T.at_; He.glo_ok X G (T.says.1.fact 49 (f := .glo "_law_tuples") rfl)
theorem Tx.D__law_tuples : ∃ fd, FunD K "_law_tuples" "_law_tuples" (defArgs s__law_tuples) (defBody s__law_tuples) (defScope s__law_tuples) [] [] (He.ga K "_law_tuples") fd := T.says.1.def_ 49 (d := d__law_tuples) rfl
theorem Tx.g__law_news_kind : mg "_law_news_kind" = some (.ref (He.ga K "_law_news_kind")) := let ⟨_, X, G⟩ := T.at_; He.glo_ok X G (T.says.1.fact 50 (f := .glo "_law_news_kind") rfl)
theorem Tx.D__law_news_kind : ∃ fd, FunD K "_law_news_kind" "_law_news_kind" (defArgs s__law_news_kind) (defBody s__law_news_kind) (defScope s__law_news_kind) [] [] (He.ga K "_law_news_kind") fd := T.says.1.def_ 50 (d := d__law_news_kind) rfl
theorem Tx.g__law_ranks : mg "_law_ranks" = some (.ref (He.ga K "_law_ranks")) := let ⟨_, X, G⟩ := T.at_; He.glo_ok X G (T.says.1.fact 51 (f := .glo "_law_ranks") rfl)
theorem Tx.D__law_ranks : ∃ fd, FunD K "_law_ranks" "_law_ranks" (defArgs s__law_ranks) (defBody s__law_ranks) (defScope s__law_ranks) [] [] (He.ga K "_law_ranks") fd := T.says.1.def_ 51 (d := d__law_ranks) rfl
theorem Tx.g__law_news : mg "_law_news" = some (.ref (He.ga K "_law_news")) := let ⟨_, X, G⟩ := T.at_; He.glo_ok X G (T.says.1.fact 52 (f := .glo "_law_news") rfl)
theorem Tx.D__law_news : ∃ fd, FunD K "_law_news" "_law_news" (defArgs s__law_news) (defBody s__law_news) (defScope s__law_news) [] [] (He.ga K "_law_news") fd := T.says.1.def_ 52 (d := d__law_news) rfl
theorem Tx.g__law_deed : mg "_law_deed" = some (.ref (He.ga K "_law_deed")) := let ⟨_, X, G⟩ := T.at_; He.glo_ok X G (T.says.1.fact 53 (f := .glo "_law_deed") rfl)
theorem Tx.D__law_deed : ∃ fd, FunD K "_law_deed" "_law_deed" (defArgs s__law_deed) (defBody s__law_deed) (defScope s__law_deed) [] [] (He.ga K "_law_deed") fd := T.says.1.def_ 53 (d := d__law_deed) rfl
theorem Tx.g__law_chosen : mg "_law_chosen" = some (.ref (He.ga K "_law_chosen")) := let ⟨_, X, G⟩ := T.at_; He.glo_ok X G (T.says.1.fact 54 (f := .glo "_law_chosen") rfl)
theorem Tx.D__law_chosen : ∃ fd, FunD K "_law_chosen" "_law_chosen" (defArgs s__law_chosen) (defBody s__law_chosen) (defScope s__law_chosen) [] [] (He.ga K "_law_chosen") fd := T.says.1.def_ 54 (d := d__law_chosen) rfl
theorem Tx.g__law_stretches : mg "_law_stretches" = some (.ref (He.ga K "_law_stretches")) := let ⟨_, X, G⟩ := T.at_; He.glo_ok X G (T.says.1.fact 55 (f := .glo "_law_stretches") rfl)
theorem Tx.D__law_stretches : ∃ fd, FunD K "_law_stretches" "_law_stretches" (defArgs s__law_stretches) (defBody s__law_stretches) (defScope s__law_stretches) [] [] (He.ga K "_law_stretches") fd := T.says.1.def_ 55 (d := d__law_stretches) rfl
theorem Tx.g__law_step : mg "_law_step" = some (.ref (He.ga K "_law_step")) := let ⟨_, X, G⟩ := T.at_; He.glo_ok X G (T.says.1.fact 56 (f := .glo "_law_step") rfl)
theorem Tx.D__law_step : ∃ fd, FunD K "_law_step" "_law_step" (defArgs s__law_step) (defBody s__law_step) (defScope s__law_step) [] [] (He.ga K "_law_step") fd := T.says.1.def_ 56 (d := d__law_step) rfl
theorem Tx.g__law_ranked_as : mg "_law_ranked_as" = some (.ref (He.ga K "_law_ranked_as")) := let ⟨_, X, G⟩ := T.at_; He.glo_ok X G (T.says.1.fact 57 (f := .glo "_law_ranked_as") rfl)
theorem Tx.D__law_ranked_as : ∃ fd, FunD K "_law_ranked_as" "_law_ranked_as" (defArgs s__law_ranked_as) (defBody s__law_ranked_as) (defScope s__law_ranked_as) [] [] (He.ga K "_law_ranked_as") fd := T.says.1.def_ 57 (d := d__law_ranked_as) rfl
theorem Tx.g__law_stands : mg "_law_stands" = some (.ref (He.ga K "_law_stands")) := let ⟨_, X, G⟩ := T.at_; He.glo_ok X G (T.says.1.fact 58 (f := .glo "_law_stands") rfl)
theorem Tx.D__law_stands : ∃ fd, FunD K "_law_stands" "_law_stands" (defArgs s__law_stands) (defBody s__law_stands) (defScope s__law_stands) [] [] (He.ga K "_law_stands") fd := T.says.1.def_ 58 (d := d__law_stands) rfl
theorem Tx.g_law : mg "law" = some (.ref (He.ga K "law")) := let ⟨_, X, G⟩ := T.at_; He.glo_ok X G (T.says.1.fact 59 (f := .glo "law") rfl)
theorem Tx.D_law : ∃ fd, FunD K "law" "law" (defArgs s_law) (defBody s_law) (defScope s_law) [] [] (He.ga K "law") fd := T.says.1.def_ 59 (d := d_law) rfl
theorem Tx.g_Tally : mg "Tally" = some (.ref (He.ga K "Tally")) := let ⟨_, X, G⟩ := T.at_; He.glo_ok X G (T.says.1.fact 60 (f := .glo "Tally") rfl)
theorem Tx.cl_Tally : Cls K (He.ga K "Tally") := He.cls_ok (T.says.1.fact 90 (f := .cls "Tally") rfl)
theorem Tx.mk_Tally : Mk K (He.ga K "Tally") (He.ma K (He.ga K "Tally") "__init__") := He.mkr_ok (T.says.1.fact 202 (f := .mkr "Tally") rfl)
theorem Tx.na_Tally_many : NoAttr K (He.ga K "Tally") "many" := He.noat_ok (T.says.1.fact 101 (f := .noat "Tally" "many") rfl)
theorem Tx.na_Tally_floors : NoAttr K (He.ga K "Tally") "floors" := He.noat_ok (T.says.1.fact 102 (f := .noat "Tally" "floors") rfl)
theorem Tx.g_Asks : mg "Asks" = some (.ref (He.ga K "Asks")) := let ⟨_, X, G⟩ := T.at_; He.glo_ok X G (T.says.1.fact 61 (f := .glo "Asks") rfl)
theorem Tx.cl_Asks : Cls K (He.ga K "Asks") := He.cls_ok (T.says.1.fact 91 (f := .cls "Asks") rfl)
theorem Tx.mk_Asks : Mk K (He.ga K "Asks") (He.ma K (He.ga K "Asks") "__init__") := He.mkr_ok (T.says.1.fact 203 (f := .mkr "Asks") rfl)
theorem Tx.na_Asks_tall : NoAttr K (He.ga K "Asks") "tall" := He.noat_ok (T.says.1.fact 103 (f := .noat "Asks" "tall") rfl)
theorem Tx.na_Asks_wide : NoAttr K (He.ga K "Asks") "wide" := He.noat_ok (T.says.1.fact 104 (f := .noat "Asks" "wide") rfl)
theorem Tx.na_Asks_tally : NoAttr K (He.ga K "Asks") "tally" := He.noat_ok (T.says.1.fact 105 (f := .noat "Asks" "tally") rfl)
theorem Tx.na_Asks_goals : NoAttr K (He.ga K "Asks") "goals" := He.noat_ok (T.says.1.fact 106 (f := .noat "Asks" "goals") rfl)
theorem Tx.na_Asks_starts : NoAttr K (He.ga K "Asks") "starts" := He.noat_ok (T.says.1.fact 107 (f := .noat "Asks" "starts") rfl)
theorem Tx.g_Piece : mg "Piece" = some (.ref (He.ga K "Piece")) := let ⟨_, X, G⟩ := T.at_; He.glo_ok X G (T.says.1.fact 62 (f := .glo "Piece") rfl)
theorem Tx.cl_Piece : Cls K (He.ga K "Piece") := He.cls_ok (T.says.1.fact 92 (f := .cls "Piece") rfl)
theorem Tx.mk_Piece : Mk K (He.ga K "Piece") (He.ma K (He.ga K "Piece") "__init__") := He.mkr_ok (T.says.1.fact 204 (f := .mkr "Piece") rfl)
theorem Tx.na_Piece_left_edge : NoAttr K (He.ga K "Piece") "left_edge" := He.noat_ok (T.says.1.fact 108 (f := .noat "Piece" "left_edge") rfl)
theorem Tx.na_Piece_upper_edge : NoAttr K (He.ga K "Piece") "upper_edge" := He.noat_ok (T.says.1.fact 109 (f := .noat "Piece" "upper_edge") rfl)
theorem Tx.na_Piece_known : NoAttr K (He.ga K "Piece") "known" := He.noat_ok (T.says.1.fact 110 (f := .noat "Piece" "known") rfl)
theorem Tx.na_Piece_made_of : NoAttr K (He.ga K "Piece") "made_of" := He.noat_ok (T.says.1.fact 111 (f := .noat "Piece" "made_of") rfl)
theorem Tx.na_Piece_levels : NoAttr K (He.ga K "Piece") "levels" := He.noat_ok (T.says.1.fact 112 (f := .noat "Piece" "levels") rfl)
theorem Tx.g_Blank : mg "Blank" = some (.ref (He.ga K "Blank")) := let ⟨_, X, G⟩ := T.at_; He.glo_ok X G (T.says.1.fact 63 (f := .glo "Blank") rfl)
theorem Tx.cl_Blank : Cls K (He.ga K "Blank") := He.cls_ok (T.says.1.fact 93 (f := .cls "Blank") rfl)
theorem Tx.mk_Blank : Mk K (He.ga K "Blank") (He.ma K (He.ga K "Blank") "__init__") := He.mkr_ok (T.says.1.fact 205 (f := .mkr "Blank") rfl)
theorem Tx.na_Blank_left_edge : NoAttr K (He.ga K "Blank") "left_edge" := He.noat_ok (T.says.1.fact 113 (f := .noat "Blank" "left_edge") rfl)
theorem Tx.na_Blank_upper_edge : NoAttr K (He.ga K "Blank") "upper_edge" := He.noat_ok (T.says.1.fact 114 (f := .noat "Blank" "upper_edge") rfl)
theorem Tx.na_Blank_known : NoAttr K (He.ga K "Blank") "known" := He.noat_ok (T.says.1.fact 115 (f := .noat "Blank" "known") rfl)
theorem Tx.na_Blank_made_of : NoAttr K (He.ga K "Blank") "made_of" := He.noat_ok (T.says.1.fact 116 (f := .noat "Blank" "made_of") rfl)
theorem Tx.na_Blank_levels : NoAttr K (He.ga K "Blank") "levels" := He.noat_ok (T.says.1.fact 117 (f := .noat "Blank" "levels") rfl)
theorem Tx.g_One : mg "One" = some (.ref (He.ga K "One")) := let ⟨_, X, G⟩ := T.at_; He.glo_ok X G (T.says.1.fact 64 (f := .glo "One") rfl)
theorem Tx.cl_One : Cls K (He.ga K "One") := He.cls_ok (T.says.1.fact 94 (f := .cls "One") rfl)
theorem Tx.mk_One : Mk K (He.ga K "One") (He.ma K (He.ga K "One") "__init__") := He.mkr_ok (T.says.1.fact 206 (f := .mkr "One") rfl)
theorem Tx.na_One_left_edge : NoAttr K (He.ga K "One") "left_edge" := He.noat_ok (T.says.1.fact 118 (f := .noat "One" "left_edge") rfl)
theorem Tx.na_One_upper_edge : NoAttr K (He.ga K "One") "upper_edge" := He.noat_ok (T.says.1.fact 119 (f := .noat "One" "upper_edge") rfl)
theorem Tx.na_One_known : NoAttr K (He.ga K "One") "known" := He.noat_ok (T.says.1.fact 120 (f := .noat "One" "known") rfl)
theorem Tx.na_One_made_of : NoAttr K (He.ga K "One") "made_of" := He.noat_ok (T.says.1.fact 121 (f := .noat "One" "made_of") rfl)
theorem Tx.na_One_levels : NoAttr K (He.ga K "One") "levels" := He.noat_ok (T.says.1.fact 122 (f := .noat "One" "levels") rfl)
theorem Tx.g_Over : mg "Over" = some (.ref (He.ga K "Over")) := let ⟨_, X, G⟩ := T.at_; He.glo_ok X G (T.says.1.fact 65 (f := .glo "Over") rfl)
theorem Tx.cl_Over : Cls K (He.ga K "Over") := He.cls_ok (T.says.1.fact 95 (f := .cls "Over") rfl)
theorem Tx.mk_Over : Mk K (He.ga K "Over") (He.ma K (He.ga K "Over") "__init__") := He.mkr_ok (T.says.1.fact 207 (f := .mkr "Over") rfl)
theorem Tx.na_Over_left_edge : NoAttr K (He.ga K "Over") "left_edge" := He.noat_ok (T.says.1.fact 123 (f := .noat "Over" "left_edge") rfl)
theorem Tx.na_Over_upper_edge : NoAttr K (He.ga K "Over") "upper_edge" := He.noat_ok (T.says.1.fact 124 (f := .noat "Over" "upper_edge") rfl)
theorem Tx.na_Over_known : NoAttr K (He.ga K "Over") "known" := He.noat_ok (T.says.1.fact 125 (f := .noat "Over" "known") rfl)
theorem Tx.na_Over_made_of : NoAttr K (He.ga K "Over") "made_of" := He.noat_ok (T.says.1.fact 126 (f := .noat "Over" "made_of") rfl)
theorem Tx.na_Over_levels : NoAttr K (He.ga K "Over") "levels" := He.noat_ok (T.says.1.fact 127 (f := .noat "Over" "levels") rfl)
theorem Tx.g_Beside : mg "Beside" = some (.ref (He.ga K "Beside")) := let ⟨_, X, G⟩ := T.at_; He.glo_ok X G (T.says.1.fact 66 (f := .glo "Beside") rfl)
theorem Tx.cl_Beside : Cls K (He.ga K "Beside") := He.cls_ok (T.says.1.fact 96 (f := .cls "Beside") rfl)
theorem Tx.mk_Beside : Mk K (He.ga K "Beside") (He.ma K (He.ga K "Beside") "__init__") := He.mkr_ok (T.says.1.fact 208 (f := .mkr "Beside") rfl)
theorem Tx.na_Beside_left_edge : NoAttr K (He.ga K "Beside") "left_edge" := He.noat_ok (T.says.1.fact 128 (f := .noat "Beside" "left_edge") rfl)
theorem Tx.na_Beside_upper_edge : NoAttr K (He.ga K "Beside") "upper_edge" := He.noat_ok (T.says.1.fact 129 (f := .noat "Beside" "upper_edge") rfl)
theorem Tx.na_Beside_known : NoAttr K (He.ga K "Beside") "known" := He.noat_ok (T.says.1.fact 130 (f := .noat "Beside" "known") rfl)
theorem Tx.na_Beside_made_of : NoAttr K (He.ga K "Beside") "made_of" := He.noat_ok (T.says.1.fact 131 (f := .noat "Beside" "made_of") rfl)
theorem Tx.na_Beside_levels : NoAttr K (He.ga K "Beside") "levels" := He.noat_ok (T.says.1.fact 132 (f := .noat "Beside" "levels") rfl)
theorem Tx.g_Limb : mg "Limb" = some (.ref (He.ga K "Limb")) := let ⟨_, X, G⟩ := T.at_; He.glo_ok X G (T.says.1.fact 67 (f := .glo "Limb") rfl)
theorem Tx.cl_Limb : Cls K (He.ga K "Limb") := He.cls_ok (T.says.1.fact 97 (f := .cls "Limb") rfl)
theorem Tx.mk_Limb : Mk K (He.ga K "Limb") (He.ma K (He.ga K "Limb") "__init__") := He.mkr_ok (T.says.1.fact 209 (f := .mkr "Limb") rfl)
theorem Tx.na_Limb_number : NoAttr K (He.ga K "Limb") "number" := He.noat_ok (T.says.1.fact 133 (f := .noat "Limb" "number") rfl)
theorem Tx.na_Limb_piece : NoAttr K (He.ga K "Limb") "piece" := He.noat_ok (T.says.1.fact 134 (f := .noat "Limb" "piece") rfl)
theorem Tx.na_Limb_upper : NoAttr K (He.ga K "Limb") "upper" := He.noat_ok (T.says.1.fact 135 (f := .noat "Limb" "upper") rfl)
theorem Tx.na_Limb_lower : NoAttr K (He.ga K "Limb") "lower" := He.noat_ok (T.says.1.fact 136 (f := .noat "Limb" "lower") rfl)
theorem Tx.na_Limb_many : NoAttr K (He.ga K "Limb") "many" := He.noat_ok (T.says.1.fact 137 (f := .noat "Limb" "many") rfl)
theorem Tx.na_Limb_tall : NoAttr K (He.ga K "Limb") "tall" := He.noat_ok (T.says.1.fact 138 (f := .noat "Limb" "tall") rfl)
theorem Tx.g_Grower : mg "Grower" = some (.ref (He.ga K "Grower")) := let ⟨_, X, G⟩ := T.at_; He.glo_ok X G (T.says.1.fact 68 (f := .glo "Grower") rfl)
theorem Tx.cl_Grower : Cls K (He.ga K "Grower") := He.cls_ok (T.says.1.fact 98 (f := .cls "Grower") rfl)
theorem Tx.mk_Grower : Mk K (He.ga K "Grower") (He.ma K (He.ga K "Grower") "__init__") := He.mkr_ok (T.says.1.fact 210 (f := .mkr "Grower") rfl)
theorem Tx.na_Grower_against : NoAttr K (He.ga K "Grower") "against" := He.noat_ok (T.says.1.fact 139 (f := .noat "Grower" "against") rfl)
theorem Tx.na_Grower_given : NoAttr K (He.ga K "Grower") "given" := He.noat_ok (T.says.1.fact 140 (f := .noat "Grower" "given") rfl)
theorem Tx.na_Grower_strips : NoAttr K (He.ga K "Grower") "strips" := He.noat_ok (T.says.1.fact 141 (f := .noat "Grower" "strips") rfl)
theorem Tx.g_Kept : mg "Kept" = some (.ref (He.ga K "Kept")) := let ⟨_, X, G⟩ := T.at_; He.glo_ok X G (T.says.1.fact 69 (f := .glo "Kept") rfl)
theorem Tx.cl_Kept : Cls K (He.ga K "Kept") := He.cls_ok (T.says.1.fact 99 (f := .cls "Kept") rfl)
theorem Tx.mk_Kept : Mk K (He.ga K "Kept") (He.ma K (He.ga K "Kept") "__init__") := He.mkr_ok (T.says.1.fact 211 (f := .mkr "Kept") rfl)
theorem Tx.na_Kept_grower : NoAttr K (He.ga K "Kept") "grower" := He.noat_ok (T.says.1.fact 142 (f := .noat "Kept" "grower") rfl)
theorem Tx.na_Kept_root : NoAttr K (He.ga K "Kept") "root" := He.noat_ok (T.says.1.fact 143 (f := .noat "Kept" "root") rfl)
theorem Tx.na_Kept_fresh : NoAttr K (He.ga K "Kept") "fresh" := He.noat_ok (T.says.1.fact 144 (f := .noat "Kept" "fresh") rfl)
theorem Tx.g_Watch : mg "Watch" = some (.ref (He.ga K "Watch")) := let ⟨_, X, G⟩ := T.at_; He.glo_ok X G (T.says.1.fact 70 (f := .glo "Watch") rfl)
theorem Tx.cl_Watch : Cls K (He.ga K "Watch") := He.cls_ok (T.says.1.fact 100 (f := .cls "Watch") rfl)
theorem Tx.mk_Watch : Mk K (He.ga K "Watch") (He.ma K (He.ga K "Watch") "__init__") := He.mkr_ok (T.says.1.fact 212 (f := .mkr "Watch") rfl)
theorem Tx.na_Watch_kept : NoAttr K (He.ga K "Watch") "kept" := He.noat_ok (T.says.1.fact 145 (f := .noat "Watch" "kept") rfl)
theorem Tx.na_Watch_limited : NoAttr K (He.ga K "Watch") "limited" := He.noat_ok (T.says.1.fact 146 (f := .noat "Watch" "limited") rfl)
theorem Tx.na_Watch_rows : NoAttr K (He.ga K "Watch") "rows" := He.noat_ok (T.says.1.fact 147 (f := .noat "Watch" "rows") rfl)
theorem Tx.D_Tally_init : ∃ fd, FunD K "__init__" "Tally.__init__" (defArgs s_Tally_init) (defBody s_Tally_init) (defScope s_Tally_init) [] [] (He.ma K (He.ga K "Tally") "__init__") fd := T.says.1.def_ 60 (d := d_Tally_init) rfl
theorem Tx.m_Tally_from_on : Meth K (He.ga K "Tally") "from_on" (He.ma K (He.ga K "Tally") "from_on") := He.meth_ok (T.says.1.fact 148 (f := .meth "Tally" "from_on") rfl)
theorem Tx.D_Tally_from_on : ∃ fd, FunD K "from_on" "Tally.from_on" (defArgs s_Tally_from_on) (defBody s_Tally_from_on) (defScope s_Tally_from_on) [] [] (He.ma K (He.ga K "Tally") "from_on") fd := T.says.1.def_ 61 (d := d_Tally_from_on) rfl
theorem Tx.m_Tally_below : Meth K (He.ga K "Tally") "below" (He.ma K (He.ga K "Tally") "below") := He.meth_ok (T.says.1.fact 149 (f := .meth "Tally" "below") rfl)
theorem Tx.D_Tally_below : ∃ fd, FunD K "below" "Tally.below" (defArgs s_Tally_below) (defBody s_Tally_below) (defScope s_Tally_below) [] [] (He.ma K (He.ga K "Tally") "below") fd := T.says.1.def_ 62 (d := d_Tally_below) rfl
theorem Tx.D_Asks_init : ∃ fd, FunD K "__init__" "Asks.__init__" (defArgs s_Asks_init) (defBody s_Asks_init) (defScope s_Asks_init) [] [] (He.ma K (He.ga K "Asks") "__init__") fd := T.says.1.def_ 63 (d := d_Asks_init) rfl
theorem Tx.m_Asks_window : Meth K (He.ga K "Asks") "window" (He.ma K (He.ga K "Asks") "window") := He.meth_ok (T.says.1.fact 150 (f := .meth "Asks" "window") rfl)
theorem Tx.D_Asks_window : ∃ fd, FunD K "window" "Asks.window" (defArgs s_Asks_window) (defBody s_Asks_window) (defScope s_Asks_window) [] [] (He.ma K (He.ga K "Asks") "window") fd := T.says.1.def_ 64 (d := d_Asks_window) rfl
theorem Tx.m_Asks_stretch : Meth K (He.ga K "Asks") "stretch" (He.ma K (He.ga K "Asks") "stretch") := He.meth_ok (T.says.1.fact 151 (f := .meth "Asks" "stretch") rfl)
theorem Tx.D_Asks_stretch : ∃ fd, FunD K "stretch" "Asks.stretch" (defArgs s_Asks_stretch) (defBody s_Asks_stretch) (defScope s_Asks_stretch) [] [] (He.ma K (He.ga K "Asks") "stretch") fd := T.says.1.def_ 65 (d := d_Asks_stretch) rfl
theorem Tx.D_Piece_init : ∃ fd, FunD K "__init__" "Piece.__init__" (defArgs s_Piece_init) (defBody s_Piece_init) (defScope s_Piece_init) [] [] (He.ma K (He.ga K "Piece") "__init__") fd := T.says.1.def_ 66 (d := d_Piece_init) rfl
theorem Tx.m_Piece_side : Meth K (He.ga K "Piece") "side" (He.ma K (He.ga K "Piece") "side") := He.meth_ok (T.says.1.fact 152 (f := .meth "Piece" "side") rfl)
theorem Tx.D_Piece_side : ∃ fd, FunD K "side" "Piece.side" (defArgs s_Piece_side) (defBody s_Piece_side) (defScope s_Piece_side) [] [] (He.ma K (He.ga K "Piece") "side") fd := T.says.1.def_ 67 (d := d_Piece_side) rfl
theorem Tx.m_Piece_top : Meth K (He.ga K "Piece") "top" (He.ma K (He.ga K "Piece") "top") := He.meth_ok (T.says.1.fact 153 (f := .meth "Piece" "top") rfl)
theorem Tx.D_Piece_top : ∃ fd, FunD K "top" "Piece.top" (defArgs s_Piece_top) (defBody s_Piece_top) (defScope s_Piece_top) [] [] (He.ma K (He.ga K "Piece") "top") fd := T.says.1.def_ 68 (d := d_Piece_top) rfl
theorem Tx.m_Piece_lines : Meth K (He.ga K "Piece") "lines" (He.ma K (He.ga K "Piece") "lines") := He.meth_ok (T.says.1.fact 154 (f := .meth "Piece" "lines") rfl)
theorem Tx.D_Piece_lines : ∃ fd, FunD K "lines" "Piece.lines" (defArgs s_Piece_lines) (defBody s_Piece_lines) (defScope s_Piece_lines) [] [] (He.ma K (He.ga K "Piece") "lines") fd := T.says.1.def_ 69 (d := d_Piece_lines) rfl
theorem Tx.m_Piece_height : Meth K (He.ga K "Piece") "height" (He.ma K (He.ga K "Piece") "height") := He.meth_ok (T.says.1.fact 155 (f := .meth "Piece" "height") rfl)
theorem Tx.D_Piece_height : ∃ fd, FunD K "height" "Piece.height" (defArgs s_Piece_height) (defBody s_Piece_height) (defScope s_Piece_height) [] [] (He.ma K (He.ga K "Piece") "height") fd := T.says.1.def_ 70 (d := d_Piece_height) rfl
theorem Tx.D_Blank_init : ∃ fd, FunD K "__init__" "Blank.__init__" (defArgs s_Blank_init) (defBody s_Blank_init) (defScope s_Blank_init) [] [] (He.ma K (He.ga K "Blank") "__init__") fd := T.says.1.def_ 71 (d := d_Blank_init) rfl
theorem Tx.m_Blank_side : Meth K (He.ga K "Blank") "side" (He.ma K (He.ga K "Blank") "side") := He.meth_ok (T.says.1.fact 156 (f := .meth "Blank" "side") rfl)
theorem Tx.D_Blank_side : ∃ fd, FunD K "side" "Piece.side" (defArgs s_Piece_side) (defBody s_Piece_side) (defScope s_Piece_side) [] [] (He.ma K (He.ga K "Blank") "side") fd := T.says.1.def_ 72 (d := d_Blank_side) rfl
theorem Tx.m_Blank_top : Meth K (He.ga K "Blank") "top" (He.ma K (He.ga K "Blank") "top") := He.meth_ok (T.says.1.fact 157 (f := .meth "Blank" "top") rfl)
theorem Tx.D_Blank_top : ∃ fd, FunD K "top" "Piece.top" (defArgs s_Piece_top) (defBody s_Piece_top) (defScope s_Piece_top) [] [] (He.ma K (He.ga K "Blank") "top") fd := T.says.1.def_ 73 (d := d_Blank_top) rfl
theorem Tx.m_Blank_lines : Meth K (He.ga K "Blank") "lines" (He.ma K (He.ga K "Blank") "lines") := He.meth_ok (T.says.1.fact 158 (f := .meth "Blank" "lines") rfl)
theorem Tx.D_Blank_lines : ∃ fd, FunD K "lines" "Piece.lines" (defArgs s_Piece_lines) (defBody s_Piece_lines) (defScope s_Piece_lines) [] [] (He.ma K (He.ga K "Blank") "lines") fd := T.says.1.def_ 74 (d := d_Blank_lines) rfl
theorem Tx.m_Blank_height : Meth K (He.ga K "Blank") "height" (He.ma K (He.ga K "Blank") "height") := He.meth_ok (T.says.1.fact 159 (f := .meth "Blank" "height") rfl)
theorem Tx.D_Blank_height : ∃ fd, FunD K "height" "Piece.height" (defArgs s_Piece_height) (defBody s_Piece_height) (defScope s_Piece_height) [] [] (He.ma K (He.ga K "Blank") "height") fd := T.says.1.def_ 75 (d := d_Blank_height) rfl
theorem Tx.D_One_init : ∃ fd, FunD K "__init__" "One.__init__" (defArgs s_One_init) (defBody s_One_init) (defScope s_One_init) [] [] (He.ma K (He.ga K "One") "__init__") fd := T.says.1.def_ 76 (d := d_One_init) rfl
theorem Tx.m_One_side : Meth K (He.ga K "One") "side" (He.ma K (He.ga K "One") "side") := He.meth_ok (T.says.1.fact 160 (f := .meth "One" "side") rfl)
theorem Tx.D_One_side : ∃ fd, FunD K "side" "Piece.side" (defArgs s_Piece_side) (defBody s_Piece_side) (defScope s_Piece_side) [] [] (He.ma K (He.ga K "One") "side") fd := T.says.1.def_ 77 (d := d_One_side) rfl
theorem Tx.m_One_top : Meth K (He.ga K "One") "top" (He.ma K (He.ga K "One") "top") := He.meth_ok (T.says.1.fact 161 (f := .meth "One" "top") rfl)
theorem Tx.D_One_top : ∃ fd, FunD K "top" "Piece.top" (defArgs s_Piece_top) (defBody s_Piece_top) (defScope s_Piece_top) [] [] (He.ma K (He.ga K "One") "top") fd := T.says.1.def_ 78 (d := d_One_top) rfl
theorem Tx.m_One_lines : Meth K (He.ga K "One") "lines" (He.ma K (He.ga K "One") "lines") := He.meth_ok (T.says.1.fact 162 (f := .meth "One" "lines") rfl)
theorem Tx.D_One_lines : ∃ fd, FunD K "lines" "Piece.lines" (defArgs s_Piece_lines) (defBody s_Piece_lines) (defScope s_Piece_lines) [] [] (He.ma K (He.ga K "One") "lines") fd := T.says.1.def_ 79 (d := d_One_lines) rfl
theorem Tx.m_One_height : Meth K (He.ga K "One") "height" (He.ma K (He.ga K "One") "height") := He.meth_ok (T.says.1.fact 163 (f := .meth "One" "height") rfl)
theorem Tx.D_One_height : ∃ fd, FunD K "height" "Piece.height" (defArgs s_Piece_height) (defBody s_Piece_height) (defScope s_Piece_height) [] [] (He.ma K (He.ga K "One") "height") fd := T.says.1.def_ 80 (d := d_One_height) rfl
theorem Tx.D_Over_init : ∃ fd, FunD K "__init__" "Over.__init__" (defArgs s_Over_init) (defBody s_Over_init) (defScope s_Over_init) [] [] (He.ma K (He.ga K "Over") "__init__") fd := T.says.1.def_ 81 (d := d_Over_init) rfl
theorem Tx.m_Over_side : Meth K (He.ga K "Over") "side" (He.ma K (He.ga K "Over") "side") := He.meth_ok (T.says.1.fact 164 (f := .meth "Over" "side") rfl)
theorem Tx.D_Over_side : ∃ fd, FunD K "side" "Piece.side" (defArgs s_Piece_side) (defBody s_Piece_side) (defScope s_Piece_side) [] [] (He.ma K (He.ga K "Over") "side") fd := T.says.1.def_ 82 (d := d_Over_side) rfl
theorem Tx.m_Over_top : Meth K (He.ga K "Over") "top" (He.ma K (He.ga K "Over") "top") := He.meth_ok (T.says.1.fact 165 (f := .meth "Over" "top") rfl)
theorem Tx.D_Over_top : ∃ fd, FunD K "top" "Piece.top" (defArgs s_Piece_top) (defBody s_Piece_top) (defScope s_Piece_top) [] [] (He.ma K (He.ga K "Over") "top") fd := T.says.1.def_ 83 (d := d_Over_top) rfl
theorem Tx.m_Over_lines : Meth K (He.ga K "Over") "lines" (He.ma K (He.ga K "Over") "lines") := He.meth_ok (T.says.1.fact 166 (f := .meth "Over" "lines") rfl)
theorem Tx.D_Over_lines : ∃ fd, FunD K "lines" "Piece.lines" (defArgs s_Piece_lines) (defBody s_Piece_lines) (defScope s_Piece_lines) [] [] (He.ma K (He.ga K "Over") "lines") fd := T.says.1.def_ 84 (d := d_Over_lines) rfl
theorem Tx.m_Over_height : Meth K (He.ga K "Over") "height" (He.ma K (He.ga K "Over") "height") := He.meth_ok (T.says.1.fact 167 (f := .meth "Over" "height") rfl)
theorem Tx.D_Over_height : ∃ fd, FunD K "height" "Piece.height" (defArgs s_Piece_height) (defBody s_Piece_height) (defScope s_Piece_height) [] [] (He.ma K (He.ga K "Over") "height") fd := T.says.1.def_ 85 (d := d_Over_height) rfl
theorem Tx.D_Beside_init : ∃ fd, FunD K "__init__" "Beside.__init__" (defArgs s_Beside_init) (defBody s_Beside_init) (defScope s_Beside_init) [] [] (He.ma K (He.ga K "Beside") "__init__") fd := T.says.1.def_ 86 (d := d_Beside_init) rfl
theorem Tx.m_Beside_side : Meth K (He.ga K "Beside") "side" (He.ma K (He.ga K "Beside") "side") := He.meth_ok (T.says.1.fact 168 (f := .meth "Beside" "side") rfl)
theorem Tx.D_Beside_side : ∃ fd, FunD K "side" "Piece.side" (defArgs s_Piece_side) (defBody s_Piece_side) (defScope s_Piece_side) [] [] (He.ma K (He.ga K "Beside") "side") fd := T.says.1.def_ 87 (d := d_Beside_side) rfl
theorem Tx.m_Beside_top : Meth K (He.ga K "Beside") "top" (He.ma K (He.ga K "Beside") "top") := He.meth_ok (T.says.1.fact 169 (f := .meth "Beside" "top") rfl)
theorem Tx.D_Beside_top : ∃ fd, FunD K "top" "Piece.top" (defArgs s_Piece_top) (defBody s_Piece_top) (defScope s_Piece_top) [] [] (He.ma K (He.ga K "Beside") "top") fd := T.says.1.def_ 88 (d := d_Beside_top) rfl
theorem Tx.m_Beside_lines : Meth K (He.ga K "Beside") "lines" (He.ma K (He.ga K "Beside") "lines") := He.meth_ok (T.says.1.fact 170 (f := .meth "Beside" "lines") rfl)
theorem Tx.D_Beside_lines : ∃ fd, FunD K "lines" "Piece.lines" (defArgs s_Piece_lines) (defBody s_Piece_lines) (defScope s_Piece_lines) [] [] (He.ma K (He.ga K "Beside") "lines") fd := T.says.1.def_ 89 (d := d_Beside_lines) rfl
theorem Tx.m_Beside_height : Meth K (He.ga K "Beside") "height" (He.ma K (He.ga K "Beside") "height") := He.meth_ok (T.says.1.fact 171 (f := .meth "Beside" "height") rfl)
theorem Tx.D_Beside_height : ∃ fd, FunD K "height" "Piece.height" (defArgs s_Piece_height) (defBody s_Piece_height) (defScope s_Piece_height) [] [] (He.ma K (He.ga K "Beside") "height") fd := T.says.1.def_ 90 (d := d_Beside_height) rfl
theorem Tx.D_Limb_init : ∃ fd, FunD K "__init__" "Limb.__init__" (defArgs s_Limb_init) (defBody s_Limb_init) (defScope s_Limb_init) [] [] (He.ma K (He.ga K "Limb") "__init__") fd := T.says.1.def_ 91 (d := d_Limb_init) rfl
theorem Tx.m_Limb_rows_from : Meth K (He.ga K "Limb") "rows_from" (He.ma K (He.ga K "Limb") "rows_from") := He.meth_ok (T.says.1.fact 172 (f := .meth "Limb" "rows_from") rfl)
theorem Tx.D_Limb_rows_from : ∃ fd, FunD K "rows_from" "Limb.rows_from" (defArgs s_Limb_rows_from) (defBody s_Limb_rows_from) (defScope s_Limb_rows_from) [] [] (He.ma K (He.ga K "Limb") "rows_from") fd := T.says.1.def_ 92 (d := d_Limb_rows_from) rfl
theorem Tx.D_Grower_init : ∃ fd, FunD K "__init__" "Grower.__init__" (defArgs s_Grower_init) (defBody s_Grower_init) (defScope s_Grower_init) [] [] (He.ma K (He.ga K "Grower") "__init__") fd := T.says.1.def_ 93 (d := d_Grower_init) rfl
theorem Tx.m_Grower_leaf : Meth K (He.ga K "Grower") "leaf" (He.ma K (He.ga K "Grower") "leaf") := He.meth_ok (T.says.1.fact 173 (f := .meth "Grower" "leaf") rfl)
theorem Tx.D_Grower_leaf : ∃ fd, FunD K "leaf" "Grower.leaf" (defArgs s_Grower_leaf) (defBody s_Grower_leaf) (defScope s_Grower_leaf) [] [] (He.ma K (He.ga K "Grower") "leaf") fd := T.says.1.def_ 94 (d := d_Grower_leaf) rfl
theorem Tx.m_Grower_knot : Meth K (He.ga K "Grower") "knot" (He.ma K (He.ga K "Grower") "knot") := He.meth_ok (T.says.1.fact 174 (f := .meth "Grower" "knot") rfl)
theorem Tx.D_Grower_knot : ∃ fd, FunD K "knot" "Grower.knot" (defArgs s_Grower_knot) (defBody s_Grower_knot) (defScope s_Grower_knot) [] [] (He.ma K (He.ga K "Grower") "knot") fd := T.says.1.def_ 95 (d := d_Grower_knot) rfl
theorem Tx.m_Grower_joined : Meth K (He.ga K "Grower") "joined" (He.ma K (He.ga K "Grower") "joined") := He.meth_ok (T.says.1.fact 175 (f := .meth "Grower" "joined") rfl)
theorem Tx.D_Grower_joined : ∃ fd, FunD K "joined" "Grower.joined" (defArgs s_Grower_joined) (defBody s_Grower_joined) (defScope s_Grower_joined) [] [] (He.ma K (He.ga K "Grower") "joined") fd := T.says.1.def_ 96 (d := d_Grower_joined) rfl
theorem Tx.m_Grower_grown : Meth K (He.ga K "Grower") "grown" (He.ma K (He.ga K "Grower") "grown") := He.meth_ok (T.says.1.fact 176 (f := .meth "Grower" "grown") rfl)
theorem Tx.D_Grower_grown : ∃ fd, FunD K "grown" "Grower.grown" (defArgs s_Grower_grown) (defBody s_Grower_grown) (defScope s_Grower_grown) [] [] (He.ma K (He.ga K "Grower") "grown") fd := T.says.1.def_ 97 (d := d_Grower_grown) rfl
theorem Tx.m_Grower_put : Meth K (He.ga K "Grower") "put" (He.ma K (He.ga K "Grower") "put") := He.meth_ok (T.says.1.fact 177 (f := .meth "Grower" "put") rfl)
theorem Tx.D_Grower_put : ∃ fd, FunD K "put" "Grower.put" (defArgs s_Grower_put) (defBody s_Grower_put) (defScope s_Grower_put) [] [] (He.ma K (He.ga K "Grower") "put") fd := T.says.1.def_ 98 (d := d_Grower_put) rfl
theorem Tx.m_Grower_drop : Meth K (He.ga K "Grower") "drop" (He.ma K (He.ga K "Grower") "drop") := He.meth_ok (T.says.1.fact 178 (f := .meth "Grower" "drop") rfl)
theorem Tx.D_Grower_drop : ∃ fd, FunD K "drop" "Grower.drop" (defArgs s_Grower_drop) (defBody s_Grower_drop) (defScope s_Grower_drop) [] [] (He.ma K (He.ga K "Grower") "drop") fd := T.says.1.def_ 99 (d := d_Grower_drop) rfl
theorem Tx.m_Grower_change : Meth K (He.ga K "Grower") "change" (He.ma K (He.ga K "Grower") "change") := He.meth_ok (T.says.1.fact 179 (f := .meth "Grower" "change") rfl)
theorem Tx.D_Grower_change : ∃ fd, FunD K "change" "Grower.change" (defArgs s_Grower_change) (defBody s_Grower_change) (defScope s_Grower_change) [] [] (He.ma K (He.ga K "Grower") "change") fd := T.says.1.def_ 100 (d := d_Grower_change) rfl
theorem Tx.D_Kept_init : ∃ fd, FunD K "__init__" "Kept.__init__" (defArgs s_Kept_init) (defBody s_Kept_init) (defScope s_Kept_init) [] [] (He.ma K (He.ga K "Kept") "__init__") fd := T.says.1.def_ 101 (d := d_Kept_init) rfl
theorem Tx.m_Kept_side : Meth K (He.ga K "Kept") "side" (He.ma K (He.ga K "Kept") "side") := He.meth_ok (T.says.1.fact 180 (f := .meth "Kept" "side") rfl)
theorem Tx.D_Kept_side : ∃ fd, FunD K "side" "Kept.side" (defArgs s_Kept_side) (defBody s_Kept_side) (defScope s_Kept_side) [] [] (He.ma K (He.ga K "Kept") "side") fd := T.says.1.def_ 102 (d := d_Kept_side) rfl
theorem Tx.m_Kept_top : Meth K (He.ga K "Kept") "top" (He.ma K (He.ga K "Kept") "top") := He.meth_ok (T.says.1.fact 181 (f := .meth "Kept" "top") rfl)
theorem Tx.D_Kept_top : ∃ fd, FunD K "top" "Kept.top" (defArgs s_Kept_top) (defBody s_Kept_top) (defScope s_Kept_top) [] [] (He.ma K (He.ga K "Kept") "top") fd := T.says.1.def_ 103 (d := d_Kept_top) rfl
theorem Tx.m_Kept_lines : Meth K (He.ga K "Kept") "lines" (He.ma K (He.ga K "Kept") "lines") := He.meth_ok (T.says.1.fact 182 (f := .meth "Kept" "lines") rfl)
theorem Tx.D_Kept_lines : ∃ fd, FunD K "lines" "Kept.lines" (defArgs s_Kept_lines) (defBody s_Kept_lines) (defScope s_Kept_lines) [] [] (He.ma K (He.ga K "Kept") "lines") fd := T.says.1.def_ 104 (d := d_Kept_lines) rfl
theorem Tx.m_Kept_pieces : Meth K (He.ga K "Kept") "pieces" (He.ma K (He.ga K "Kept") "pieces") := He.meth_ok (T.says.1.fact 183 (f := .meth "Kept" "pieces") rfl)
theorem Tx.D_Kept_pieces : ∃ fd, FunD K "pieces" "Kept.pieces" (defArgs s_Kept_pieces) (defBody s_Kept_pieces) (defScope s_Kept_pieces) [] [] (He.ma K (He.ga K "Kept") "pieces") fd := T.says.1.def_ 105 (d := d_Kept_pieces) rfl
theorem Tx.m_Kept_put : Meth K (He.ga K "Kept") "put" (He.ma K (He.ga K "Kept") "put") := He.meth_ok (T.says.1.fact 184 (f := .meth "Kept" "put") rfl)
theorem Tx.D_Kept_put : ∃ fd, FunD K "put" "Kept.put" (defArgs s_Kept_put) (defBody s_Kept_put) (defScope s_Kept_put) [] [] (He.ma K (He.ga K "Kept") "put") fd := T.says.1.def_ 106 (d := d_Kept_put) rfl
theorem Tx.m_Kept_drop : Meth K (He.ga K "Kept") "drop" (He.ma K (He.ga K "Kept") "drop") := He.meth_ok (T.says.1.fact 185 (f := .meth "Kept" "drop") rfl)
theorem Tx.D_Kept_drop : ∃ fd, FunD K "drop" "Kept.drop" (defArgs s_Kept_drop) (defBody s_Kept_drop) (defScope s_Kept_drop) [] [] (He.ma K (He.ga K "Kept") "drop") fd := T.says.1.def_ 107 (d := d_Kept_drop) rfl
theorem Tx.m_Kept_change : Meth K (He.ga K "Kept") "change" (He.ma K (He.ga K "Kept") "change") := He.meth_ok (T.says.1.fact 186 (f := .meth "Kept" "change") rfl)
theorem Tx.D_Kept_change : ∃ fd, FunD K "change" "Kept.change" (defArgs s_Kept_change) (defBody s_Kept_change) (defScope s_Kept_change) [] [] (He.ma K (He.ga K "Kept") "change") fd := T.says.1.def_ 108 (d := d_Kept_change) rfl
theorem Tx.m_Kept_retop : Meth K (He.ga K "Kept") "retop" (He.ma K (He.ga K "Kept") "retop") := He.meth_ok (T.says.1.fact 187 (f := .meth "Kept" "retop") rfl)
theorem Tx.D_Kept_retop : ∃ fd, FunD K "retop" "Kept.retop" (defArgs s_Kept_retop) (defBody s_Kept_retop) (defScope s_Kept_retop) [] [] (He.ma K (He.ga K "Kept") "retop") fd := T.says.1.def_ 109 (d := d_Kept_retop) rfl
theorem Tx.m_Kept_note : Meth K (He.ga K "Kept") "note" (He.ma K (He.ga K "Kept") "note") := He.meth_ok (T.says.1.fact 188 (f := .meth "Kept" "note") rfl)
theorem Tx.D_Kept_note : ∃ fd, FunD K "note" "Kept.note" (defArgs s_Kept_note) (defBody s_Kept_note) (defScope s_Kept_note) [] [] (He.ma K (He.ga K "Kept") "note") fd := T.says.1.def_ 110 (d := d_Kept_note) rfl
theorem Tx.D_Watch_init : ∃ fd, FunD K "__init__" "Watch.__init__" (defArgs s_Watch_init) (defBody s_Watch_init) (defScope s_Watch_init) [] [] (He.ma K (He.ga K "Watch") "__init__") fd := T.says.1.def_ 111 (d := d_Watch_init) rfl
theorem Tx.m_Watch_side : Meth K (He.ga K "Watch") "side" (He.ma K (He.ga K "Watch") "side") := He.meth_ok (T.says.1.fact 189 (f := .meth "Watch" "side") rfl)
theorem Tx.D_Watch_side : ∃ fd, FunD K "side" "Watch.side" (defArgs s_Watch_side) (defBody s_Watch_side) (defScope s_Watch_side) [] [] (He.ma K (He.ga K "Watch") "side") fd := T.says.1.def_ 112 (d := d_Watch_side) rfl
theorem Tx.m_Watch_top : Meth K (He.ga K "Watch") "top" (He.ma K (He.ga K "Watch") "top") := He.meth_ok (T.says.1.fact 190 (f := .meth "Watch" "top") rfl)
theorem Tx.D_Watch_top : ∃ fd, FunD K "top" "Watch.top" (defArgs s_Watch_top) (defBody s_Watch_top) (defScope s_Watch_top) [] [] (He.ma K (He.ga K "Watch") "top") fd := T.says.1.def_ 113 (d := d_Watch_top) rfl
theorem Tx.m_Watch_most : Meth K (He.ga K "Watch") "most" (He.ma K (He.ga K "Watch") "most") := He.meth_ok (T.says.1.fact 191 (f := .meth "Watch" "most") rfl)
theorem Tx.D_Watch_most : ∃ fd, FunD K "most" "Watch.most" (defArgs s_Watch_most) (defBody s_Watch_most) (defScope s_Watch_most) [] [] (He.ma K (He.ga K "Watch") "most") fd := T.says.1.def_ 114 (d := d_Watch_most) rfl
theorem Tx.m_Watch_told : Meth K (He.ga K "Watch") "told" (He.ma K (He.ga K "Watch") "told") := He.meth_ok (T.says.1.fact 192 (f := .meth "Watch" "told") rfl)
theorem Tx.D_Watch_told : ∃ fd, FunD K "told" "Watch.told" (defArgs s_Watch_told) (defBody s_Watch_told) (defScope s_Watch_told) [] [] (He.ma K (He.ga K "Watch") "told") fd := T.says.1.def_ 115 (d := d_Watch_told) rfl
theorem Tx.m_Watch_reckoned : Meth K (He.ga K "Watch") "reckoned" (He.ma K (He.ga K "Watch") "reckoned") := He.meth_ok (T.says.1.fact 193 (f := .meth "Watch" "reckoned") rfl)
theorem Tx.D_Watch_reckoned : ∃ fd, FunD K "reckoned" "Watch.reckoned" (defArgs s_Watch_reckoned) (defBody s_Watch_reckoned) (defScope s_Watch_reckoned) [] [] (He.ma K (He.ga K "Watch") "reckoned") fd := T.says.1.def_ 116 (d := d_Watch_reckoned) rfl
theorem Tx.m_Watch_news : Meth K (He.ga K "Watch") "news" (He.ma K (He.ga K "Watch") "news") := He.meth_ok (T.says.1.fact 194 (f := .meth "Watch" "news") rfl)
theorem Tx.D_Watch_news : ∃ fd, FunD K "news" "Watch.news" (defArgs s_Watch_news) (defBody s_Watch_news) (defScope s_Watch_news) [] [] (He.ma K (He.ga K "Watch") "news") fd := T.says.1.def_ 117 (d := d_Watch_news) rfl
theorem Tx.m_Watch_rank : Meth K (He.ga K "Watch") "rank" (He.ma K (He.ga K "Watch") "rank") := He.meth_ok (T.says.1.fact 195 (f := .meth "Watch" "rank") rfl)
theorem Tx.D_Watch_rank : ∃ fd, FunD K "rank" "Watch.rank" (defArgs s_Watch_rank) (defBody s_Watch_rank) (defScope s_Watch_rank) [] [] (He.ma K (He.ga K "Watch") "rank") fd := T.says.1.def_ 118 (d := d_Watch_rank) rfl
theorem Tx.m_Watch_row_of : Meth K (He.ga K "Watch") "row_of" (He.ma K (He.ga K "Watch") "row_of") := He.meth_ok (T.says.1.fact 196 (f := .meth "Watch" "row_of") rfl)
theorem Tx.D_Watch_row_of : ∃ fd, FunD K "row_of" "Watch.row_of" (defArgs s_Watch_row_of) (defBody s_Watch_row_of) (defScope s_Watch_row_of) [] [] (He.ma K (He.ga K "Watch") "row_of") fd := T.says.1.def_ 119 (d := d_Watch_row_of) rfl
theorem Tx.m_Watch_retop : Meth K (He.ga K "Watch") "retop" (He.ma K (He.ga K "Watch") "retop") := He.meth_ok (T.says.1.fact 197 (f := .meth "Watch" "retop") rfl)
theorem Tx.D_Watch_retop : ∃ fd, FunD K "retop" "Watch.retop" (defArgs s_Watch_retop) (defBody s_Watch_retop) (defScope s_Watch_retop) [] [] (He.ma K (He.ga K "Watch") "retop") fd := T.says.1.def_ 120 (d := d_Watch_retop) rfl
theorem Tx.m_Watch_put : Meth K (He.ga K "Watch") "put" (He.ma K (He.ga K "Watch") "put") := He.meth_ok (T.says.1.fact 198 (f := .meth "Watch" "put") rfl)
theorem Tx.D_Watch_put : ∃ fd, FunD K "put" "Watch.put" (defArgs s_Watch_put) (defBody s_Watch_put) (defScope s_Watch_put) [] [] (He.ma K (He.ga K "Watch") "put") fd := T.says.1.def_ 121 (d := d_Watch_put) rfl
theorem Tx.m_Watch_drop : Meth K (He.ga K "Watch") "drop" (He.ma K (He.ga K "Watch") "drop") := He.meth_ok (T.says.1.fact 199 (f := .meth "Watch" "drop") rfl)
theorem Tx.D_Watch_drop : ∃ fd, FunD K "drop" "Watch.drop" (defArgs s_Watch_drop) (defBody s_Watch_drop) (defScope s_Watch_drop) [] [] (He.ma K (He.ga K "Watch") "drop") fd := T.says.1.def_ 122 (d := d_Watch_drop) rfl
theorem Tx.m_Watch_change : Meth K (He.ga K "Watch") "change" (He.ma K (He.ga K "Watch") "change") := He.meth_ok (T.says.1.fact 200 (f := .meth "Watch" "change") rfl)
theorem Tx.D_Watch_change : ∃ fd, FunD K "change" "Watch.change" (defArgs s_Watch_change) (defBody s_Watch_change) (defScope s_Watch_change) [] [] (He.ma K (He.ga K "Watch") "change") fd := T.says.1.def_ 123 (d := d_Watch_change) rfl
theorem Tx.m_Watch_limit : Meth K (He.ga K "Watch") "limit" (He.ma K (He.ga K "Watch") "limit") := He.meth_ok (T.says.1.fact 201 (f := .meth "Watch" "limit") rfl)
theorem Tx.D_Watch_limit : ∃ fd, FunD K "limit" "Watch.limit" (defArgs s_Watch_limit) (defBody s_Watch_limit) (defScope s_Watch_limit) [] [] (He.ma K (He.ga K "Watch") "limit") fd := T.says.1.def_ 124 (d := d_Watch_limit) rfl
theorem Tx.z_len : mg "len" = none := let ⟨_, X, G⟩ := T.at_; He.free_ok X G (T.says.1.fact 71 (f := .free "len") rfl)
theorem Tx.z_isinstance : mg "isinstance" = none := let ⟨_, X, G⟩ := T.at_; He.free_ok X G (T.says.1.fact 72 (f := .free "isinstance") rfl)
theorem Tx.z_all : mg "all" = none := let ⟨_, X, G⟩ := T.at_; He.free_ok X G (T.says.1.fact 73 (f := .free "all") rfl)
theorem Tx.z_range : mg "range" = none := let ⟨_, X, G⟩ := T.at_; He.free_ok X G (T.says.1.fact 74 (f := .free "range") rfl)
theorem Tx.z_list : mg "list" = none := let ⟨_, X, G⟩ := T.at_; He.free_ok X G (T.says.1.fact 75 (f := .free "list") rfl)
theorem Tx.z_enumerate : mg "enumerate" = none := let ⟨_, X, G⟩ := T.at_; He.free_ok X G (T.says.1.fact 76 (f := .free "enumerate") rfl)
theorem Tx.z_zip : mg "zip" = none := let ⟨_, X, G⟩ := T.at_; He.free_ok X G (T.says.1.fact 77 (f := .free "zip") rfl)
theorem Tx.z_max : mg "max" = none := let ⟨_, X, G⟩ := T.at_; He.free_ok X G (T.says.1.fact 78 (f := .free "max") rfl)
theorem Tx.z_min : mg "min" = none := let ⟨_, X, G⟩ := T.at_; He.free_ok X G (T.says.1.fact 79 (f := .free "min") rfl)
theorem Tx.z_sorted : mg "sorted" = none := let ⟨_, X, G⟩ := T.at_; He.free_ok X G (T.says.1.fact 80 (f := .free "sorted") rfl)
theorem Tx.z_int : mg "int" = none := let ⟨_, X, G⟩ := T.at_; He.free_ok X G (T.says.1.fact 81 (f := .free "int") rfl)
theorem Tx.z_str : mg "str" = none := let ⟨_, X, G⟩ := T.at_; He.free_ok X G (T.says.1.fact 82 (f := .free "str") rfl)
theorem Tx.z_bool : mg "bool" = none := let ⟨_, X, G⟩ := T.at_; He.free_ok X G (T.says.1.fact 83 (f := .free "bool") rfl)
theorem Tx.z_tuple : mg "tuple" = none := let ⟨_, X, G⟩ := T.at_; He.free_ok X G (T.says.1.fact 84 (f := .free "tuple") rfl)
theorem Tx.c_LETTERS : ∃ t, mg "LETTERS" = some (.str "abcdefghijklmnopqrstuvwxyz" t) := let ⟨_, X, G⟩ := T.at_; He.str_ok X G (T.says.1.fact 85 (f := .str "LETTERS" "abcdefghijklmnopqrstuvwxyz") rfl)
theorem Tx.c_MOST_SIGNS : ∃ t, mg "MOST_SIGNS" = some (.int 48 t) := let ⟨_, X, G⟩ := T.at_; He.int_ok X G (T.says.1.fact 86 (f := .int "MOST_SIGNS" 48) rfl)
theorem Tx.c_MOST_LETTERS : ∃ t, mg "MOST_LETTERS" = some (.int 24 t) := let ⟨_, X, G⟩ := T.at_; He.int_ok X G (T.says.1.fact 87 (f := .int "MOST_LETTERS" 24) rfl)
theorem Tx.c_MOST_LINES : ∃ t, mg "MOST_LINES" = some (.int 96 t) := let ⟨_, X, G⟩ := T.at_; He.int_ok X G (T.says.1.fact 88 (f := .int "MOST_LINES" 96) rfl)
theorem Tx.c_MOST_COST : ∃ t, mg "MOST_COST" = some (.int 48 t) := let ⟨_, X, G⟩ := T.at_; He.int_ok X G (T.says.1.fact 89 (f := .int "MOST_COST" 48) rfl)
end
end Pt
end
section
set_option maxRecDepth 100000
set_option maxHeartbeats 4000000
namespace Pt
open PySem PySem.Spec PyProof.Rows L2
def sOf (l : List Nat) : Str := ⟨l.toArray⟩
theorem sOf_len (l : List Nat) : (sOf l).length = l.length := by simp [sOf, Str.length]
theorem sOf_cps (l : List Nat) : (sOf l).cps.toList = l := by simp [sOf]
theorem sOf_inj {a b : List Nat} (h : sOf a = sOf b) : a = b := by
  have := congrArg (fun z => Str.cps z |>.toList) h
  simpa [sOf] using this
theorem sOf_app (a b : List Nat) : sOf a ++ sOf b = sOf (a ++ b) := by
  show Str.mk (a.toArray ++ b.toArray) = _
  simp [sOf]
def ev {α : Type} : List α → List α
  | [] => []
  | [x] => [x]
  | x :: _ :: r => x :: ev r
theorem ev_pick {α : Type} : ∀ l : List α, (List.range ((l.length + 1) / 2)).filterMap (fun j => l[2 * j]?) = ev l
  | [] => by simp [ev]
  | [x] => by simp [ev, List.range_succ]
  | x :: y :: r => by
    have e : ((x :: y :: r).length + 1) / 2 = (r.length + 1) / 2 + 1 := by simp; omega
    rw [e, List.range_succ_eq_map, List.filterMap_cons]
    simp only [List.getElem?_cons_zero, List.filterMap_map]
    show x :: _ = x :: ev r
    rw [← ev_pick r]
    rfl
theorem range2 (k n : Nat) (h : k ≤ n) : sliceRange (k : Int) (n : Int) 2 = (List.range ((n - k + 1) / 2)).map (fun j => k + 2 * j) := by
  unfold sliceRange
  have e1 : (if (2 : Int) > 0 then (if (k : Int) < n then ((n : Int) - k + 2 - 1) / 2 else 0) else (if (k : Int) > n then ((k : Int) - n - 2 - 1) / (-2) else 0)).toNat = (n - k + 1) / 2 := by
    rw [if_pos (by decide)]
    split <;> omega
  show List.map _ (List.range _) = _
  rw [e1]
  refine List.map_congr_left fun j _ => ?_
  omega
theorem pick2 {α : Type} (l : List α) (k : Nat) (h : k ≤ l.length) : (sliceRange (k : Int) (l.length : Int) 2).filterMap (fun i => l[i]?) = ev (l.drop k) := by
  rw [range2 k _ h, List.filterMap_map, ← ev_pick, List.length_drop]
  congr 1
  funext j
  simp [Function.comp, List.getElem?_drop]
section
variable {X : Cx} {e lo : Expr} {te : TE} {pos p1 p2 p3 : Pos} {j k : Nat}
def loN : Option Int → Nat → Option Nat
  | none, _ => some 0
  | some i, n => if i = 1 then some (min 1 n) else none
def tSt2S (te : TE) (tl : TO) : TE := fun σ H Q => te σ H fun x H1 => tl σ H1 fun o H2 => ∃ (l : List Nat) (k : Nat), x = .str (sOf l) ∧ l.length ≤ 100000 ∧ loN o l.length = some k ∧ Q (.str (sOf (ev (l.drop k)))) H2
theorem ev_len {α : Type} : ∀ l : List α, (ev l).length ≤ l.length
  | [] => Nat.le_refl _
  | [_] => Nat.le_refl _
  | x :: y :: r => by
    have := ev_len r
    simp [ev]; omega
theorem picked_eq (l : List Nat) (o : Option (Int × Tok)) (st : Tok) (k : Nat) (hk : loN (o.map (·.1)) l.length = some k) (t : Tok) :
    ((slicePicked (sOf l) o none (some (2, st))).filterMap ((sOf l).cps[·]?)).toArray = (ev (l.drop k)).toArray ∧ k ≤ l.length := by
  have hp : slicePicked (sOf l) o none (some (2, st)) = sliceRange (k : Int) (l.length : Int) 2 ∧ k ≤ l.length := by
    unfold slicePicked
    show Builtin.Str.strSliceIndices (o.map (·.1)) none 2 (sOf l).length = _ ∧ _
    rw [sOf_len]
    unfold Builtin.Str.strSliceIndices
    cases o with
    | none =>
      have : 0 = k := Option.some.inj hk
      subst this
      exact ⟨rfl, Nat.zero_le _⟩
    | some z =>
      obtain ⟨i, t⟩ := z
      have hk' : (if i = 1 then some (min 1 l.length) else none) = some k := hk
      split at hk'
      · rename_i e
        subst e
        have e2 : min 1 l.length = k := Option.some.inj hk'
        refine ⟨?_, by omega⟩
        show sliceRange (max 0 (min 1 (l.length : Int))) (l.length : Int) 2 = _
        congr 1
        omega
      · cases hk'
  refine ⟨?_, hp.2⟩
  rw [hp.1]
  have z : ∀ i : Nat, (sOf l).cps[i]? = l[i]? := fun i => by simp [sOf]
  have := pick2 l k hp.2
  rw [← this]
  congr 2
  funext i
  exact z i
theorem pe_st2S {tl : TO} {lo : Option Expr} (he : PE X e te) (hl : PO X lo tl) : PE X (.Subscript e (.Slice lo none (some (.Constant (.int 2) j p1)) p3) pos) (tSt2S te tl) := by
  refine ⟨fun pins s σ H Q I h => ?_⟩
  refine Subscript_ (thn (he.run pins s σ H _ I h) fun v s1 ⟨x, H1, I1, r1, q1⟩ => ?_)
  have hst : PO X (some (.Constant (.int 2) j p1)) (tPart (tC (.int 2))) := po_some pe_int
  refine wpAny_Slice (thn (hl.run pins s1 σ H1 _ I1 q1) fun vl s2 ⟨o, H2, I2, pl, q2⟩ => ?_)
  refine thn (po_none.run pins s2 σ H2 (fun o H3 => o = none ∧ H3 = H2) I2 ⟨rfl, rfl⟩) fun vu s3 ⟨u, H3, I3, pu, eu, e3⟩ => ?_
  subst eu e3
  refine thn (hst.run pins s3 σ H3 (fun o H4 => o = some 2 ∧ H4 = H3) I3 ⟨2, rfl, rfl, rfl⟩) fun vs s4 ⟨oo, H4, I4, ps, eo, e4⟩ => ?_
  subst eo e4
  obtain ⟨l, k, rfl, hz, hk, q⟩ := q2
  obtain ⟨t, rfl⟩ := r1
  have I5 : Inv X pins σ H4 { s4 with heap := s4.heap.push { cls := .type "slice", data := .fields #[vl, vu, vs] } } := I4.kept (t' := s4.toks) fun b ob q => Heap.get?_push_of_some _ q
  obtain ⟨os, hos, hcs, hds⟩ := Heap.IsSliceOf.new s4.heap vl vu vs
  obtain ⟨l', rfl, rfl⟩ := IsPart.raw pl
  obtain ⟨u', rfl, eu'⟩ := IsPart.raw pu
  obtain ⟨st', rfl, es'⟩ := IsPart.raw ps
  cases u' with
  | some _ => cases eu'
  | none =>
    cases st' with
    | none => cases es'
    | some z =>
      obtain ⟨c, tc⟩ := z
      have : c = 2 := Option.some.inj es'
      subst this
      show wpAny (model X.prog X.w) X.A (subscriptTail e (.Slice lo none (some (.Constant (.int 2) j p1)) p3) (.str (sOf l) t) (.ref s4.heap.objs.size)) (EP X pins σ Q) X.xe _
      refine tail_any (ops := [.ref s4.heap.objs.size, .str (sOf l) t]) (typeIs_str _ _ _) PySem.F.slot_str_getitem.lookup ?_ (by with_unfolding_all rfl)
      refine wpAny_getItem_str_slice (l := l') (u := none) (st := some (2, tc)) ⟨os, hos, hcs, hds⟩ rfl ?_
      obtain ⟨ep, hkl⟩ := picked_eq l l' tc k hk t
      unfold sliceMade
      have c : ((((some (2, tc) : Option (Int × Tok)).map (·.1)).getD 1 == 1) && (slicePicked (sOf l) l' none (some (2, tc))).length == (sOf l).length) = false := rfl
      rw [if_neg (by rw [c]; exact Bool.false_ne_true), ep]
      refine ⟨?_, .str _, H4, I5.tok _, ⟨_, rfl⟩, q⟩
      have := ev_len (l.drop k)
      show ((ev (l.drop k)).toArray).size ≤ sizeLine
      rw [List.size_toArray]
      rw [List.length_drop] at this
      exact Nat.le_trans (by omega) (show 100000 ≤ sizeLine by decide)
def tSt2L (K : PySem.W.Frag) (te : TE) (tl : TO) : TE := fun σ H Q => te σ H fun x H1 => tl σ H1 fun o H2 => ∃ (a : Addr) (xs : List V) (k : Nat), x = .ref a ∧ SqL K H2 a xs ∧ loN o xs.length = some k ∧ ∀ p, H2 p = none → Q (.ref p) (upd H2 p (.lst (ev (xs.drop k))))
theorem ev_map {α β : Type} (f : α → β) : ∀ l : List α, ev (l.map f) = (ev l).map f
  | [] => rfl
  | [_] => rfl
  | x :: y :: r => by simp [ev, ev_map f r]
theorem vals_ev : ∀ {xs : List V} {us : List Value}, Vals xs us → Vals (ev xs) (Pt.ev us)
  | _, _, .nil => .nil
  | _, _, .cons r .nil => .cons r .nil
  | _, _, .cons r (.cons _ t) => .cons r (vals_ev t)
theorem pe_st2L {tl : TO} {lo : Option Expr} (he : PE X e te) (hl : PO X lo tl) : PE X (.Subscript e (.Slice lo none (some (.Constant (.int 2) j p1)) p3) pos) (tSt2L X.K te tl) := by
  refine ⟨fun pins s σ H Q I h => ?_⟩
  refine Subscript_ (thn (he.run pins s σ H _ I h) fun v s1 ⟨x, H1, I1, r1, q1⟩ => ?_)
  have hst : PO X (some (.Constant (.int 2) j p1)) (tPart (tC (.int 2))) := po_some pe_int
  refine wpAny_Slice (thn (hl.run pins s1 σ H1 _ I1 q1) fun vl s2 ⟨o, H2, I2, pl, q2⟩ => ?_)
  refine thn (po_none.run pins s2 σ H2 (fun o H3 => o = none ∧ H3 = H2) I2 ⟨rfl, rfl⟩) fun vu s3 ⟨u, H3, I3, pu, eu, e3⟩ => ?_
  subst eu e3
  refine thn (hst.run pins s3 σ H3 (fun o H4 => o = some 2 ∧ H4 = H3) I3 ⟨2, rfl, rfl, rfl⟩) fun vs s4 ⟨oo, H4, I4, ps, eo, e4⟩ => ?_
  subst eo e4
  obtain ⟨a, xs, k, rfl, hx, hk, q⟩ := q2
  cases r1
  have I5 : Inv X pins σ H4 { s4 with heap := s4.heap.push { cls := .type "slice", data := .fields #[vl, vu, vs] } } := I4.kept (t' := s4.toks) fun b ob q => Heap.get?_push_of_some _ q
  obtain ⟨its, r, ht, hz⟩ := I5.list hx
  have hlen := r.length
  show wpAny (model X.prog X.w) X.A (subscriptTail e (.Slice lo none (some (.Constant (.int 2) j p1)) p3) (.ref a) (.ref s4.heap.objs.size)) (EP X pins σ Q) X.xe { s4 with heap := s4.heap.push { cls := .type "slice", data := .fields #[vl, vu, vs] } }
  refine tail_any (ops := [.ref a, .ref s4.heap.objs.size]) ht.isList.typeIs (PySem.slot_list_getitem.lookup) ?_ (by with_unfolding_all rfl)
  refine wpAny_getItem_list_slice ht.isList (Heap.IsSliceOf.new _ vl vu vs) pl pu ps (by decide) ?_ (by rw [List.size_toArray]; omega)
  have pk : slicePick its.toArray o none (some 2) = (ev (its.drop k)).toArray ∧ k ≤ its.length := by
    unfold slicePick
    have hb : sliceBounds o none (some 2) its.toArray.size = ((k : Int), (its.length : Int), 2) ∧ k ≤ its.length := by
      unfold sliceBounds
      rw [List.size_toArray]
      rw [hlen] at hk
      cases o with
      | none =>
        have : 0 = k := Option.some.inj hk
        subst this
        exact ⟨rfl, Nat.zero_le _⟩
      | some i =>
        have hk' : (if i = 1 then some (min 1 its.length) else none) = some k := hk
        split at hk'
        · rename_i e
          subst e
          have e2 : min 1 its.length = k := Option.some.inj hk'
          refine ⟨?_, by omega⟩
          show (max 0 (min 1 (its.length : Int)), (its.length : Int), (2 : Int)) = _
          congr 1
          omega
        · cases hk'
    rw [hb.1]
    refine ⟨?_, hb.2⟩
    have := pick2 its k hb.2
    rw [← this]
    congr 2
    funext i
    simp
  rw [pk.1]
  refine ⟨.ref _, _, I5.laid (t' := s4.toks) (o := .lst (ev (xs.drop k))) (fun b ob q => Heap.get?_push_of_some _ q) (Nat.le_refl _) ?_, rfl, q _ (I5.hok.fresh (Nat.le_refl _))⟩
  have := ev_len (xs.drop k)
  rw [List.length_drop] at this
  exact ⟨by omega, _, 0, vals_ev (r.drop k), Heap.get?_push_size _ rfl⟩
end
end Pt
end
section
set_option maxRecDepth 100000
set_option maxHeartbeats 4000000
namespace Pt3
open PySem PySem.Spec PyProof.Rows SrtO
abbrev I3 := Int × Int × Int
def lex3 (p q : I3) : Bool := if p.1 = q.1 then (if p.2.1 = q.2.1 then decide (p.2.2 < q.2.2) else decide (p.2.1 < q.2.1)) else decide (p.1 < q.1)
theorem lex3_iff {p q : I3} : lex3 p q = true ↔ p.1 < q.1 ∨ (p.1 = q.1 ∧ (p.2.1 < q.2.1 ∨ (p.2.1 = q.2.1 ∧ p.2.2 < q.2.2))) := by
  unfold lex3
  by_cases e : p.1 = q.1
  · rw [if_pos e]
    by_cases f : p.2.1 = q.2.1
    · rw [if_pos f, decide_eq_true_eq]; omega
    · rw [if_neg f, decide_eq_true_eq]; omega
  · rw [if_neg e, decide_eq_true_eq]; omega
theorem lex3_no {p q : I3} : lex3 p q = false ↔ ¬ (p.1 < q.1 ∨ (p.1 = q.1 ∧ (p.2.1 < q.2.1 ∨ (p.2.1 = q.2.1 ∧ p.2.2 < q.2.2)))) := by
  rw [← lex3_iff]
  cases lex3 p q <;> simp
theorem swo_lex3 {α : Type} (k : α → I3) : Swo fun v u => lex3 (k v) (k u) := by
  refine ⟨fun x y h => ?_, fun x y z h1 h2 => ?_⟩
  · have a := lex3_iff.mp h
    refine lex3_no.mpr ?_
    omega
  · have a := lex3_no.mp h1
    have b := lex3_no.mp h2
    refine lex3_no.mpr ?_
    omega
def IsTrip (h : Heap) (v : Value) (p : I3) : Prop := ∃ a o t u r n, v = .ref a ∧ h.get? a = some o ∧ o.cls = .type "tuple" ∧ o.data = .seq #[.int p.1 t, .int p.2.1 u, .int p.2.2 r] n
theorem IsTrip.keeps {h h' : Heap} {v : Value} {p : I3} (x : IsTrip h v p) (k : ∀ b o, h.get? b = some o → o.cls = .type "tuple" → h'.get? b = some o) : IsTrip h' v p := by
  obtain ⟨a, o, t, u, r, n, e, ho, hc, hd⟩ := x
  exact ⟨a, o, t, u, r, n, e, k a o ho hc, hc, hd⟩
variable {prog : Program} {w : World} {A : Around} {E : Value → Shared → Prop} {s : Shared}
theorem firsts3 {h : Heap} : ∀ {vs : List Value}, (∀ v ∈ vs, ∃ p, IsTrip h v p) → ∃ fs : List Value, PySem.W.KatTups h vs fs ∧ fs.length = vs.length ∧ ∀ f ∈ fs, ∃ x t, f = Value.int x t
  | [], _ => ⟨[], PySem.W.KatTups.nil, rfl, fun _ hm => by simp at hm⟩
  | v :: vs, hp => by
    obtain ⟨fs, h1, h2, h3⟩ := firsts3 (vs := vs) fun v' hm => hp v' (List.mem_cons_of_mem _ hm)
    obtain ⟨p, a, o, t, u, r, n, e, ho, hc, hd⟩ := hp v (List.mem_cons_self ..)
    subst e
    refine ⟨.int p.1 t :: fs, PySem.W.KatTups.cons ho hc hd rfl h1, by rw [List.length_cons, List.length_cons, h2], fun f hm => ?_⟩
    rcases List.mem_cons.mp hm with rfl | hm
    · exact ⟨p.1, t, rfl⟩
    · exact h3 f hm
theorem trip_cmp {vs : List Value} {k : Value → I3} (hp : ∀ v ∈ vs, IsTrip s.heap v (k v)) : Cmp prog w A s (tuples' true) (fun p => p.1 ∈ vs) (lt2 fun v u => lex3 (k v) (k u)) := by
  intro p q hm hm'
  have h1 := hp _ hm
  have h2 := hp _ hm'
  show wpAny (model prog w) A (keyLt' (tuples' true) p.1 q.1) (fun r s' => s' = s ∧ r = lex3 (k p.1) (k q.1)) (fun _ _ => False) s
  generalize k p.1 = P at h1 ⊢
  generalize k q.1 = R at h2 ⊢
  obtain ⟨x, y, z⟩ := P
  obtain ⟨x', y', z'⟩ := R
  obtain ⟨a, o, t, u, r, n, e, ho, hc, hd⟩ := h1
  obtain ⟨a', o', t', u', r', n', e', ho', hc', hd'⟩ := h2
  rw [e, e']
  refine PySem.W.kat_lt ho hd ho' hd' ?_
  show PySem.W.KatLex prog w A true (decide (3 < 3)) _ [(.int x t, .int x' t'), (.int y u, .int y' u'), (.int z r, .int z' r')] 0 s
  refine PySem.W.kat_cons (SeqAt.EqAt.int_int x t x' t' prog w _ _ ?_)
  refine PySem.W.kat_go (fun e1 => ?_) (fun e1 => ?_)
  · have ex : x = x' := by simpa using e1
    refine PySem.W.kat_yes (PySem.W.kat_cons (SeqAt.EqAt.int_int y u y' u' prog w _ _ ?_))
    refine PySem.W.kat_go (fun e2 => ?_) (fun e2 => ?_)
    · have ey : y = y' := by simpa using e2
      refine PySem.W.kat_yes (PySem.W.kat_cons (SeqAt.EqAt.int_int z r z' r' prog w _ _ ?_))
      refine PySem.W.kat_go (fun e3 => ?_) (fun e3 => ?_)
      · have ez : z = z' := by simpa using e3
        have e4 : lex3 (x, y, z) (x', y', z') = false := by
          refine lex3_no.mpr ?_
          simp only
          omega
        exact PySem.W.kat_yes (PySem.W.kat_nil ⟨rfl, e4.symm⟩)
      · have e4 : lex3 (x, y, z) (x', y', z') = decide (z < z') := by unfold lex3; rw [if_pos ex, if_pos ey]
        refine PySem.W.kat_no (PySem.W.kat_one _ _ (PyProof.Rows.lt_int ?_))
        exact (show s = s ∧ decide (z < z') = lex3 (x, y, z) (x', y', z') from ⟨rfl, e4.symm⟩)
    · have ey : ¬ y = y' := by simpa using e2
      have e4 : lex3 (x, y, z) (x', y', z') = decide (y < y') := by unfold lex3; rw [if_pos ex, if_neg ey]
      refine PySem.W.kat_no (PySem.W.kat_one _ _ (PyProof.Rows.lt_int ?_))
      exact (show s = s ∧ decide (y < y') = lex3 (x, y, z) (x', y', z') from ⟨rfl, e4.symm⟩)
  · have ex : ¬ x = x' := by simpa using e1
    have e3 : lex3 (x, y, z) (x', y', z') = decide (x < x') := by unfold lex3; rw [if_neg ex]
    exact PySem.W.kat_no (oneLt_int ⟨rfl, e3.symm⟩)
theorem trips_sortable {a : Addr} {vs : List Value} {k : Value → I3} (h0 : 0 < vs.length) (hp : ∀ v ∈ vs, IsTrip s.heap v (k v)) (ha : ∀ o, s.heap.get? a = some o → o.cls ≠ .type "tuple") : SortableO prog w A s a vs fun v u => lex3 (k v) (k u) := by
  intro h' keep
  have hp' : ∀ v ∈ vs, IsTrip h' v (k v) := fun v hm => (hp v hm).keeps fun b o e c => keep b o (fun z => by subst z; exact ha o e c) e
  obtain ⟨fs, h1, h2, h3⟩ := firsts3 fun v hm => ⟨_, hp' v hm⟩
  refine ⟨tuples' true, fun Q E hq => ?_, trip_cmp hp'⟩
  refine PySem.W.kat_kind (T := .type "int") h1 (by omega) (fun f hm => ?_) (by rfl) ?_
  · obtain ⟨x, t, rfl⟩ := h3 f hm
    exact PySem.W.Looks.now
  · have e : (Value.type "int" != Value.type "tuple") = true := by first | decide +kernel | rfl | decide
    rw [e]
    exact hq
theorem sorted_trips {l : Addr} {vs : List Value} {k : Value → I3} {Q : Value → Shared → Prop} (hl : s.heap.IsList l vs.toArray) (hz : vs.length ≤ sizeLine) (hp : ∀ v ∈ vs, IsTrip s.heap v (k v))
    (h : ∀ (h' : Heap) (d : Addr) (out : List Value), Srtd (fun v u => lex3 (k v) (k u)) out → Stb (fun v u => lex3 (k v) (k u)) out vs → (∀ b o, s.heap.get? b = some o → h'.get? b = some o) → s.heap.objs.size ≤ d → (∃ n, h'.get? d = some (seqObj "list" out.toArray n)) → Q (.ref d) { s with heap := h' }) :
    wpAny (model prog w) A (call (.builtin "sorted") [.ref l]) Q E s := by
  refine sorted_ord (swo_lex3 k) hl hz (fun h2 h₁ a ha kk => ?_) fun out hs hb => ?_
  · refine trips_sortable (s := { s with heap := h₁ }) (by omega) (fun v hm => (hp v hm).keeps fun b o e _ => (kk b o e).2) fun o e => ?_
    have e' : some o = some (seqObj "list" vs.toArray 0) := e.symm.trans ha
    cases e'
    intro c
    exact absurd (Value.type.inj c) (by decide)
  · exact h _ _ out hs hb (fun b o e => sortedAll_old e) (Nat.le_succ _) (sortedAll_at s.heap vs out.toArray)
end Pt3
namespace Pt
open PySem PySem.Spec PyProof.Rows L2
abbrev I3 := Pt3.I3
def TripAt (H : Hp) (a : Addr) (p : I3) : Prop := H a = some (.tup [.int p.1, .int p.2.1, .int p.2.2])
abbrev LtL (p q : I3) : Bool := Pt3.lex3 p q
theorem swo_ltL : SrtO.Swo LtL := Pt3.swo_lex3 (fun p => p)
section
variable {X : Cx}
def rSorted3 (K : PySem.W.Frag) : List V → Hp → VK → Prop := fun vs H Q => ∃ (a : Addr) (xs : List V) (k : V → I3), vs = [V.ref a] ∧ SqL K H a xs ∧ (∀ x ∈ xs, ∃ t, x = V.ref t ∧ TripAt H t (k x)) ∧
  ∀ ys p, SrtO.Srtd (fun x y => LtL (k x) (k y)) ys → ys.Perm xs → H p = none → Q (.ref p) (upd H p (.lst ys))
theorem vals3' {x y z : V} {us : List Value} (r : Vals [x, y, z] us) : ∃ u v w, us = [u, v, w] ∧ RelV x u ∧ RelV y v ∧ RelV z w := by
  cases r with
  | cons p q =>
    cases q with
    | cons p' q' =>
      cases q' with
      | cons p'' q'' =>
        cases q''
        exact ⟨_, _, _, rfl, p, p', p''⟩
theorem cr_sorted3 : CallR X (.builtin "sorted") (rSorted3 X.K) := by
  intro pins s σ H vs us Q I r h
  obtain ⟨a, xs, k, rfl, hs, hx, q⟩ := h
  obtain ⟨its, rv, hl, hz⟩ := I.list hs
  obtain ⟨u, rfl, ru⟩ := vals1 r
  obtain rfl : u = Value.ref a := ru
  obtain ⟨e1, e2⟩ := refs_back rv fun x m => by
    obtain ⟨t, e, _⟩ := hx x m
    exact ⟨t, e⟩
  refine Pt3.sorted_trips (k := fun u => k (backV u)) hl.isList (by rw [← rv.length]; exact hz) (fun v hv => ?_) fun h' d out h1 h2 kp hd hn => ?_
  · obtain ⟨t, rfl⟩ := e2 v hv
    have hm : V.ref t ∈ xs := by rw [e1]; exact List.mem_map.mpr ⟨_, hv, rfl⟩
    obtain ⟨t', e, ht⟩ := hx _ hm
    cases e
    obtain ⟨_, its2, r2, o, ho, hc, n, hd⟩ := I.hok _ _ ht
    obtain ⟨u1, u2, u3, rfl, ri, rj, rk⟩ := vals3' r2
    obtain ⟨t1, rfl⟩ := ri
    obtain ⟨t2, rfl⟩ := rj
    obtain ⟨t3, rfl⟩ := rk
    exact ⟨t, o, t1, t2, t3, n, rfl, ho, hc, hd⟩
  · have h3 : ∀ u ∈ out, ∃ a, u = Value.ref a := fun u hu => e2 u (h2.perm.mem_iff.mp hu)
    obtain ⟨n, hn⟩ := hn
    have hp : (out.map backV).Perm xs := by
      rw [e1]
      exact h2.perm.map backV
    refine ⟨.ref d, upd H d (.lst (out.map backV)), I.laid (t' := s.toks) kp hd ⟨?_, out, n, vals_back h3, hn⟩, rfl, q _ d (SrtO.srtd_map (lt := fun x y => LtL (k x) (k y)) h1) hp (I.hok.fresh hd)⟩
    rw [hp.length_eq]
    exact hz
theorem op_rep_str : OpR X (binaryOp .Mult) (fun x y H Q => ∃ (c : Nat) (n : Nat), x = .str (sOf [c]) ∧ y = .int n ∧ n ≤ 1000 ∧ Q (.str (sOf (List.replicate n c))) H) := by
  intro pins s σ H x y v u Q I rx ry h
  obtain ⟨c, n, rfl, rfl, hn, q⟩ := h
  obtain ⟨t, rfl⟩ := rx
  obtain ⟨t', rfl⟩ := ry
  have big : (1000 : Nat) ≤ sizeLine := by decide
  refine PySem.P.mul_str ?_ (fun h1 _ => ?_) (fun h1 _ => ?_) ?_
  · have h2 : ¬ (n : Int) < -(2 ^ 63 : Int) := by omega
    have h3 : ¬ (n : Int) ≥ 2 ^ 63 := by omega
    rw [decide_eq_false h2, decide_eq_false h3]; rfl
  · have e : ((sOf [c]).length : Int) = 1 := by rw [sOf_len]; rfl
    rw [e]
    have : (1 : Int) ≤ (2 ^ 63 - 1) / n := by
      apply (Int.le_ediv_iff_mul_le (by omega)).mpr
      omega
    omega
  · rw [sOf_len]
    have e : ((n : Int)).toNat = n := by omega
    rw [e]
    unfold Builtin.Str.tooLong
    refine decide_eq_false ?_
    simp
    omega
  · by_cases h0 : (n : Int) < 1
    · rw [if_pos h0]
      have : n = 0 := by omega
      subst this
      exact ⟨by decide, .str _, H, I.tok _, ⟨_, rfl⟩, q⟩
    · rw [if_neg h0]
      by_cases h1 : ((n : Int) == 1 || (sOf [c]).length == 0) = true
      · rw [if_pos h1]
        have : n = 1 := by
          rw [sOf_len] at h1
          simp at h1
          omega
        subst this
        exact ⟨.str _, H, I, ⟨t, rfl⟩, q⟩
      · rw [if_neg h1]
        have e : ((n : Int)).toNat = n := by omega
        rw [e]
        have e2 : ∀ m acc, ((List.replicate m (sOf [c]).cps).foldl (· ++ ·) acc).toList = acc.toList ++ List.replicate m c := by
          intro m
          induction m with
          | zero => intro acc; simp
          | succ m ih =>
            intro acc
            rw [List.replicate_succ, List.foldl_cons, ih]
            simp [sOf, List.replicate_succ]
        have e3 : (List.replicate n (sOf [c]).cps).foldl (· ++ ·) #[] = (List.replicate n c).toArray := by
          apply Array.toList_inj.mp
          rw [e2]
          simp
        rw [e3]
        refine ⟨?_, .str _, H, I.tok _, ⟨_, rfl⟩, q⟩
        show ((List.replicate n c).toArray).size ≤ sizeLine
        simp
        omega
end
end Pt
end
section
set_option maxRecDepth 100000
set_option maxHeartbeats 4000000
namespace Pt
open PySem PySem.Spec PyProof.Rows L2
section
variable {X : Cx} {pos p2 : Pos}
def gSubSl (to tl th : TE) : TG := fun v σ H Q => to σ H fun x H1 => tl σ H1 fun y H2 => th σ H2 fun z H3 => ∃ (l b : Addr) (xs ys : List V) (a c : Nat), x = .ref l ∧ v = .ref b ∧ y = .int a ∧ z = .int c ∧ H3 l = some (.lst xs) ∧ H3 b = some (.lst ys) ∧ l ≠ b ∧
  a ≤ c ∧ c ≤ xs.length ∧ xs.length + ys.length ≤ sizeLine ∧ Q σ (upd H3 l (.lst (xs.take a ++ ys ++ xs.drop c)))
theorem pg_subSl {o lo hi : Expr} {to tl th : TE} (ho : PE X o to) (hl : PE X lo tl) (hh : PE X hi th)
    (ha : ∀ v, assign (.Subscript o (.Slice (some lo) (some hi) none p2) pos) X.env v = (do
      let ov ← holding [v] (eval o X.env)
      let iv ← holding [v, ov] (eval (.Slice (some lo) (some hi) none p2) X.env)
      standAt pos
      holding [v, ov, iv] (setItem ov iv v)
      release [iv, v, ov] []) := by intro _; rfl) : PG X (.Subscript o (.Slice (some lo) (some hi) none p2) pos) (gSubSl to tl th) := by
  refine ⟨fun pins s σ H v u Q I r h => ?_⟩
  rw [ha]
  refine wpAny_bind (wpAny_holding (thn (ho.run pins s σ H _ I h) fun ov s1 ⟨x, H1, I1, r1, q1⟩ => ?_))
  refine wpAny_bind (wpAny_holding ?_)
  refine wpAny_Slice ?_
  rw [evalPart_some]
  refine thn (hl.run pins s1 σ H1 _ I1 q1) fun vl s2 ⟨y, H2, I2, r2, q2⟩ => ?_
  rw [evalPart_some]
  refine thn (hh.run pins s2 σ H2 _ I2 q2) fun vu s3 ⟨z, H3, I3, r3, q3⟩ => ?_
  rw [evalPart_none]
  refine wpAny_pure ?_
  have I4 : Inv X pins σ H3 { s3 with heap := s3.heap.push { cls := .type "slice", data := .fields #[vl, vu, .none] } } := I3.kept (t' := s3.toks) fun b ob q => Heap.get?_push_of_some _ q
  obtain ⟨l, b, xs, ys, a, c, rfl, rfl, rfl, rfl, hl', hb, ne, hac, hc, hz, q⟩ := q3
  cases r1
  cases r
  refine wpAny_bind (wpAny_standAt (wpAny_bind (wpAny_holding ?_)))
  refine set_slice I4 hl' hb ne (Heap.IsSliceOf.new ..) r2 r3 (by omega) (by omega) (by omega) hz fun s5 I5 => ?_
  rw [Int.toNat_natCast, Int.toNat_natCast] at I5
  exact wpAny_release ⟨σ, _, I5, q⟩
end
def Itit (d : Addr) (o : Obj) (kvs : List (List Key × V)) : It :=
  ⟨fun i H => H d = some (.frz o (.dT kvs)) ∧ i < kvs.length,
    fun i H x H' => ∃ (T q : Addr) (k : List Key) (v : V), kvs[i]? = some (k, v) ∧ H q = some (.tup (k.map kV)) ∧ x = .ref T ∧ H T = none ∧ H' = upd H T (.tup [.ref q, v]),
    fun i H => H d = some (.frz o (.dT kvs)) ∧ kvs.length ≤ i⟩
section
variable {P : Program} {w : World} {K : PySem.W.Frag} {d : Addr} {o : Obj} {es : Array DictEntry} {ep : Nat}
theorem frzTV {X : Cx} {pins : List (Addr × Obj)} {σ : L2.St} {H : Hp} {s : Shared} {kvs : List (List Key × V)} (I : Inv X pins σ H s) (h : H d = some (.frz o (.dT kvs))) :
    (d == sysModules) = false ∧ s.heap.get? d = some o ∧ o.ExactDict ∧ ∃ (es : Array DictEntry) (ep : Nat), o.data = .dict es ep ∧ es.size = kvs.length ∧
      ∀ (i : Nat) (k : List Key) (v : V), kvs[i]? = some (k, v) → ∃ (en : DictEntry) (q : Addr), es[i]? = some en ∧ en.key = .ref q ∧ H q = some (.tup (k.map kV)) ∧ RelV v en.val := by
  obtain ⟨hd, z, hs, xs, pr, o', es, ep, ho, hx, hdt, he, _⟩ := I.hok d _ h
  rw [hd] at ho
  cases ho
  refine ⟨hs, hd, hx, es, ep, hdt, ?_, fun i k v e => ?_⟩
  · have l1 : es.size = xs.length := size_of_entries he
    have l2 : kvs.length = xs.length := Paired.length pr
    omega
  · obtain ⟨b, hb, e1, e2, e3⟩ := paired_get pr e
    have q := entry_at he i
    rw [hb] at q
    exact ⟨_, b.2.1, q, rfl, e2, e3⟩
theorem turn_itemsT {kvs : List (List Key × V)} {elts : List Expr} {kk : Nat} {tpos : Pos} (it : Addr) (hod : o.data = .dict es ep) :
    Turn P w K (.Tuple elts kk tpos) (Itit d o kvs) [it] it (fun i h => ∃ ok ov, IsItemIter h it d i kvs.length ep ok ov) where
  mem := by simp
  obj := fun i h st b hb => by
    have e : b = it := by simpa using hb
    subst e
    obtain ⟨ok, ov, e⟩ := st
    exact ⟨_, e, fun v z => nomatch z⟩
  keep := fun i h h' st k => let ⟨ok, ov, e⟩ := st; ⟨ok, ov, k it (by simp) _ e⟩
  item := by
    intro X hP hw hK hc i pins s σ H E I hf st hg
    subst hP hw hK
    obtain ⟨hd, hi⟩ := hg
    obtain ⟨hs, hgd, hx, es', ep', hdt, hsz, ent⟩ := frzTV I hd
    obtain ⟨rfl, rfl⟩ := dict_ep hod hdt
    obtain ⟨⟨k, v⟩, hkv⟩ : ∃ p, kvs[i]? = some p := ⟨kvs[i], List.getElem?_eq_getElem hi⟩
    obtain ⟨en, q, hen, hkey, hq, rv⟩ := ent i k v hkv
    obtain ⟨ok, ov, he⟩ := st
    rw [← hsz] at he
    have hi' : i < es'.size := by omega
    have hen' : es'[i] = en := by
      rw [Array.getElem?_eq_getElem hi'] at hen
      exact Option.some.inj hen
    have hlt : it < s.heap.objs.size := Heap.lt_size he
    refine DT.nextI he ⟨o, hgd, hx, hdt⟩ hi' fun h' ho hT hz hk => ?_
    rw [hen'] at ho hT
    refine ⟨_, rfl, wpAny_letOwnedTupleGo_items (s := { s with heap := h' }) ho fun h'' he' sb => ?_⟩
    have hT2 : h''.get? s.heap.objs.size = some { cls := .type "tuple", data := .seq #[en.key, en.val] } := (sb.2 _ (Nat.ne_of_gt hlt)).trans hT
    have new : ObjOk X.prog X.w (upd H s.heap.objs.size (.tup [.ref q, v])) h'' s.heap.objs.size (.tup [.ref q, v]) :=
      ⟨by show 2 ≤ sizeLine; decide, [en.key, en.val], .cons (show RelV (.ref q) en.key from hkey) (.cons rv .nil), ⟨_, hT2, rfl, _, rfl⟩⟩
    have I1 : Inv X pins σ (upd H s.heap.objs.size (.tup [.ref q, v])) { s with heap := h'' } :=
      I.turnedNew (t' := s.toks) (ch := [it]) (fun b ob hb e => (sb.2 b (by simpa using hb)).trans (hk b ob (by simpa using hb) e)) hf (Nat.le_refl _) new
    refine ⟨.ref s.heap.objs.size, _, I1, rfl, ⟨_, q, k, v, hkv, hq, rfl, I.hok.fresh (Nat.le_refl _), rfl⟩, ⟨en.key, en.val, ?_⟩, fun b hb => ?_⟩
    · rw [← hsz]; exact he'
    · have e : b = it := by simpa using hb
      rw [e, upd_ne (Nat.ne_of_lt hlt)]
      exact (hf it (by simp)).1
  done := by
    intro X hP hw hK hc i pins s σ H E I hf st hg
    subst hP hw hK
    obtain ⟨hd, hi⟩ := hg
    obtain ⟨f0, f1, f2, f3, f4, f5⟩ := hf it (by simp)
    obtain ⟨hs, hgd, hx, es', ep', hdt, hsz, ent⟩ := frzTV I hd
    obtain ⟨rfl, rfl⟩ := dict_ep hod hdt
    obtain ⟨ok, ov, he⟩ := st
    rw [← hsz] at he
    exact DT.endI (I.ok.hd hc) he ⟨o, hgd, hx, hdt⟩ (by omega) fun h' eb => ⟨rfl, I.turned (t' := s.toks) (fun b ob hb e => eb b ob hb e) f0 f1 f3 f4 f5⟩
  self := fun A i s Q E st h => let ⟨_, _, e⟩ := st; PySem.W.kcp_self e h
end
def iItemsT (td : TE) : TI := fun σ H R => td σ H fun x H1 => ∃ d o kvs, x = .ref d ∧ H1 d = some (.frz o (.dT kvs)) ∧ R (Itit d o kvs) H1
theorem pi_itemsT {X : Cx} {e : Expr} {td : TE} {apos cpos : Pos} {elts : List Expr} {kk : Nat} {tpos : Pos} (he : PE X e td) (hbase : attributeBase e "items" X.env (eval e X.env) = eval e X.env := by rfl) (hline : (apos.endLine == cpos.line) = true := by rfl) :
    PI X (.Tuple elts kk tpos) (.Call (.Attribute e "items" apos) [] [] cpos) (iItemsT td) := by
  refine ⟨fun pins s σ H R I h => ?_⟩
  refine wpAny_Call_method (T := "dict") (id := "dict.items") hbase rfl hline PySem.F.plainAttrs_dict PySem.F.slot_dict_items PySem.F.type_dict_items (thn (he.run pins s σ H _ I h) fun u s1 ⟨x, H1, I1, rx, d, o, kvs, ex, hd, q⟩ => ?_)
  subst ex
  obtain rfl : u = Value.ref d := rx
  obtain ⟨hs, hgd, hx, es, ep, hdt, hsz, ent⟩ := frzTV I1 hd
  have rw_ : DT.Raw s1.heap d es ep := ⟨o, hgd, hx, hdt⟩
  have I2 : Inv X pins σ H1 { s1 with heap := s1.heap.push { cls := .type "dict_items", data := .fields #[.ref d] } } := I1.kept (t' := s1.toks) fun b ob q => Heap.get?_push_of_some _ q
  have fin : wpAny (model X.prog X.w) X.A (pyIter (.ref s1.heap.objs.size)) (PIE X pins σ (.Tuple elts kk tpos) R) X.xe { s1 with heap := s1.heap.push { cls := .type "dict_items", data := .fields #[.ref d] } } := by
    refine DT.iterI (d := d) (es := es) (ep := ep) ⟨_, Heap.get?_push_size _ rfl, rfl, rfl⟩ (rw_.push _) (pi_one (tk := s1.toks) I2 _ (turn_itemsT _ hdt) ⟨.none, .none, ?_⟩ q)
    rw [← hsz]
    exact Heap.get?_push_size _ rfl
  refine ⟨rw_.typeIs, fun b e => ?_, ?_⟩
  · cases e
    exact ⟨o, hgd, hx.2.1⟩
  show wpAny _ _ (callWith cpos (.builtin "dict.items") [.ref d] [] []) _ X.xe s1
  exact method_meetsIn PySem.F.slot_dict_items PySem.F.entry_dict_items rfl (PySem.evalArgs_none ⟨rfl, rw_.typeIs, PySem.F.args_dict_items_1 _, _, DT.meetsItems hs, rw_, fin⟩)
end Pt
end
section
namespace PtM
def Turn (t : List Nat) : Prop := t.Nodup ∧ ∀ x ∈ t, x < t.length
def cnt (t : List Nat) (b e : Nat) : Nat := (t.drop b).countP (fun x => decide (x < e))
def cE (E : List Nat) (b e : Nat) : Nat := (E.take e).countP (fun x => decide (b ≤ x))
def opp (t : List Nat) : List Nat := (List.range t.length).map (fun g => t.idxOf g)
theorem opp_len (t : List Nat) : (opp t).length = t.length := by simp [opp]
theorem turn_mem {t : List Nat} (h : Turn t) {g : Nat} (hg : g < t.length) : g ∈ t := by
  refine Classical.byContradiction fun hn => ?_
  have h1 : (g :: t).Nodup := List.nodup_cons.mpr ⟨hn, h.1⟩
  have h2 := List.Nodup.length_le_of_subset (l₂ := List.range t.length) h1 fun x hx => by
    rcases List.mem_cons.mp hx with rfl | hx
    · exact List.mem_range.mpr hg
    · exact List.mem_range.mpr (h.2 x hx)
  simp at h2
  omega
theorem turn_perm {t : List Nat} (h : Turn t) : t.Perm (List.range t.length) :=
  (List.perm_ext_iff_of_nodup h.1 List.nodup_range).mpr fun x => ⟨fun hx => List.mem_range.mpr (h.2 x hx), fun hx => turn_mem h (List.mem_range.mp hx)⟩
theorem turn_of_perm {t : List Nat} {n : Nat} (h : t.Perm (List.range n)) : Turn t := by
  have hl : t.length = n := by rw [h.length_eq]; simp
  refine ⟨h.nodup_iff.mpr List.nodup_range, fun x hx => ?_⟩
  have := h.subset hx
  rw [hl]
  exact List.mem_range.mp this
theorem turn_range (n : Nat) : Turn (List.range n) := turn_of_perm (List.Perm.refl _)
theorem idx_lt {t : List Nat} (h : Turn t) {g : Nat} (hg : g < t.length) : t.idxOf g < t.length := List.idxOf_lt_length_of_mem (turn_mem h hg)
theorem idx_get {t : List Nat} (h : Turn t) {g : Nat} (hg : g < t.length) : t[t.idxOf g]'(idx_lt h hg) = g := List.getElem_idxOf (idx_lt h hg)
theorem get_idx {t : List Nat} (h : Turn t) {s : Nat} (hs : s < t.length) : t.idxOf t[s] = s := List.Nodup.idxOf_getElem h.1 s hs
theorem opp_get {t : List Nat} {g : Nat} (hg : g < (opp t).length) : (opp t)[g] = t.idxOf g := by simp [opp]
theorem opp_turn {t : List Nat} (h : Turn t) : Turn (opp t) := by
  refine ⟨?_, fun x hx => ?_⟩
  · unfold opp
    rw [List.nodup_iff_pairwise_ne, List.pairwise_iff_getElem]
    intro i j hi hj hij
    simp at hi hj ⊢
    intro e
    have a := idx_get h hi
    have b := idx_get h hj
    simp only [e] at a
    omega
  · rw [opp_len]
    unfold opp at hx
    obtain ⟨g, hg, rfl⟩ := List.mem_map.mp hx
    exact idx_lt h (List.mem_range.mp hg)
theorem opp_opp {t : List Nat} (h : Turn t) : opp (opp t) = t := by
  refine List.ext_getElem (by simp [opp_len]) fun i h1 h2 => ?_
  rw [opp_get]
  have hx : t[i] < t.length := h.2 _ (List.getElem_mem h2)
  have e : (opp t)[t[i]]'(by rw [opp_len]; exact hx) = i := by rw [opp_get]; exact get_idx h h2
  have := get_idx (opp_turn h) (s := t[i]) (by rw [opp_len]; exact hx)
  rw [e] at this
  exact this
theorem cnt_eq {t : List Nat} (h : Turn t) (b : Nat) : ∀ e, e ≤ t.length → cnt t b e = cE (opp t) b e := by
  intro e
  induction e with
  | zero => intro _; unfold cnt cE; simp
  | succ e ih =>
    intro he
    have ih := ih (by omega)
    have he' : e < t.length := by omega
    have h1 : cE (opp t) b (e + 1) = cE (opp t) b e + (if b ≤ t.idxOf e then 1 else 0) := by
      unfold cE
      rw [List.take_succ_eq_append_getElem (by rw [opp_len]; exact he'), List.countP_append, opp_get]
      congr 1
      by_cases q : b ≤ t.idxOf e <;> simp [List.countP_cons, q]
    have h2 : cnt t b (e + 1) = cnt t b e + (t.drop b).count e := by
      unfold cnt
      rw [List.count_eq_countP]
      generalize t.drop b = l
      induction l with
      | nil => simp
      | cons x l ih2 =>
        simp only [List.countP_cons, ih2]
        by_cases q1 : x < e
        · have : x < e + 1 := by omega
          have : ¬ x = e := by omega
          simp [*]; omega
        · by_cases q2 : x = e
          · subst q2; simp; omega
          · have : ¬ x < e + 1 := by omega
            simp [*]
    have h3 : (t.drop b).count e = if b ≤ t.idxOf e then 1 else 0 := by
      have hm := turn_mem h he'
      have c1 : t.count e = 1 := by rw [List.Nodup.count h.1, if_pos hm]
      have c2 : t.count e = (t.take b).count e + (t.drop b).count e := by
        conv => lhs; rw [← List.take_append_drop b t]
        rw [List.count_append]
      have c3 : (t.take b).count e = if b ≤ t.idxOf e then 0 else 1 := by
        split
        · rename_i q
          refine List.count_eq_zero.mpr fun hx => ?_
          obtain ⟨i, hi, he2⟩ := List.getElem_of_mem hx
          have hib : i < b := by simp at hi; omega
          have hit : i < t.length := by simp at hi; omega
          rw [List.getElem_take] at he2
          have := get_idx h hit
          rw [he2] at this
          omega
        · rename_i q
          have hlt := idx_lt h he'
          have hx : e ∈ t.take b := by
            rw [List.mem_take_iff_getElem]
            exact ⟨t.idxOf e, by omega, idx_get h he'⟩
          have l1 : (t.take b).count e ≤ 1 := by omega
          have l2 : 0 < (t.take b).count e := List.count_pos_iff.mpr hx
          omega
      split at c3 <;> split <;> omega
    rw [h1, h2, h3, ih]
end PtM
end
section
namespace PtM
def stepE (E : List Nat) (p : Nat) : List Nat := if E.getD p 0 < E.getD (p + 1) 0 then (E.set p (E.getD (p + 1) 0)).set (p + 1) (E.getD p 0) else E
def work (E : List Nat) (st : List Nat) : List Nat := st.foldl stepE E
theorem stepE_len (E : List Nat) (p : Nat) : (stepE E p).length = E.length := by
  unfold stepE; split <;> simp
theorem work_len (st : List Nat) : ∀ E : List Nat, (work E st).length = E.length := by
  induction st with
  | nil => intro E; rfl
  | cons p st ih => intro E; show (work (stepE E p) st).length = _; rw [ih, stepE_len]
theorem work_snoc (E st : List Nat) (p : Nat) : work E (st ++ [p]) = stepE (work E st) p := by simp [work, List.foldl_append]
theorem split2 {E : List Nat} {p : Nat} (hp : p + 1 < E.length) : E = E.take p ++ (E.getD p 0 :: E.getD (p + 1) 0 :: E.drop (p + 2)) := by
  conv => lhs; rw [← List.take_append_drop p E]
  congr 1
  have h1 : p < E.length := by omega
  rw [List.drop_eq_getElem_cons h1, List.drop_eq_getElem_cons hp]
  simp [List.getD, h1, hp]
theorem swap_eq {E : List Nat} {p : Nat} (hp : p + 1 < E.length) (x y : Nat) : (E.set p x).set (p + 1) y = E.take p ++ (x :: y :: E.drop (p + 2)) := by
  refine List.ext_getElem ?_ fun i h1 h2 => ?_
  · simp; omega
  · simp at h1
    simp only [List.getElem_set]
    by_cases a : i < p
    · have : ¬ p + 1 = i := by omega
      have : ¬ p = i := by omega
      rw [List.getElem_append_left (by simp; omega)]
      simp [*]
    · rw [List.getElem_append_right (by simp; omega)]
      have e : (List.take p E).length = p := by simp; omega
      simp only [e]
      by_cases b : i = p
      · subst b; simp
      · by_cases c : i = p + 1
        · subst c
          have : p + 1 - p = 1 := by omega
          simp [this]
        · have : ¬ p + 1 = i := by omega
          have : ¬ p = i := by omega
          obtain ⟨j, rfl⟩ : ∃ j, i = p + 2 + j := ⟨i - (p + 2), by omega⟩
          have q : p + 2 + j - p = j + 1 + 1 := by omega
          simp [*]
theorem stepE_perm {E : List Nat} {p : Nat} (hp : p + 1 < E.length) : (stepE E p).Perm E := by
  unfold stepE
  split
  · rw [swap_eq hp]
    conv => rhs; rw [split2 hp]
    exact List.Perm.append_left _ (List.Perm.swap _ _ _)
  · exact List.Perm.refl _
theorem work_perm : ∀ (st E : List Nat), (∀ p ∈ st, p + 1 < E.length) → (work E st).Perm E := by
  intro st
  induction st with
  | nil => intro E _; exact List.Perm.refl _
  | cons p st ih =>
    intro E h
    have hp := h p List.mem_cons_self
    exact (ih (stepE E p) fun r hr => by rw [stepE_len]; exact h r (List.mem_cons_of_mem _ hr)).trans (stepE_perm hp)
theorem cE_take_of_le (E : List Nat) (b : Nat) {e : Nat} (h : e < E.length) : cE E b (e + 1) = cE E b e + (if b ≤ E.getD e 0 then 1 else 0) := by
  unfold cE
  rw [List.take_succ_eq_append_getElem h, List.countP_append]
  congr 1
  have : E.getD e 0 = E[e] := by simp [List.getD, h]
  rw [this]
  by_cases q : b ≤ E[e] <;> simp [List.countP_cons, q]
theorem cE_step_other {E : List Nat} {p : Nat} (hp : p + 1 < E.length) (b : Nat) {e : Nat} (he : e ≠ p + 1) : cE (stepE E p) b e = cE E b e := by
  unfold stepE
  split
  · unfold cE
    rw [swap_eq hp]
    by_cases a : e ≤ p
    · rw [List.take_append_of_le_length (by simp; omega), List.take_take, Nat.min_eq_left a]
    · obtain ⟨j, rfl⟩ : ∃ j, e = p + 2 + j := ⟨e - (p + 2), by omega⟩
      have e1 : (List.take p E).length = p := by simp; omega
      have q : p + 2 + j - p = j + 1 + 1 := by omega
      rw [List.take_append, e1, q]
      conv => rhs; rw [split2 hp, List.take_append, e1, q]
      simp only [List.take_succ_cons, List.countP_append, List.countP_cons]
      omega
  · rfl
theorem cE_step_here {E : List Nat} {p : Nat} (hp : p + 1 < E.length) (b : Nat) : cE (stepE E p) b (p + 1) = min (cE E b p + 1) (cE E b (p + 2)) := by
  have h1 := cE_take_of_le E b (e := p) (by omega)
  have h2 := cE_take_of_le E b (e := p + 1) hp
  have l := stepE_len E p
  have h3 := cE_take_of_le (stepE E p) b (e := p) (by omega)
  rw [cE_step_other hp b (e := p) (by omega)] at h3
  have h4 : (stepE E p).getD p 0 = if E.getD p 0 < E.getD (p + 1) 0 then E.getD (p + 1) 0 else E.getD p 0 := by
    unfold stepE
    split
    · have : p < E.length := by omega
      simp [List.getD, this]
    · rfl
  rw [h3, h4, h2, h1]
  split <;> split <;> split <;> omega
theorem cE_mono (E : List Nat) (b : Nat) {e : Nat} : ∀ k, e + k ≤ E.length → cE E b e ≤ cE E b (e + k) ∧ cE E b (e + k) ≤ cE E b e + k := by
  intro k
  induction k with
  | zero => intro _; simp
  | succ k ih =>
    intro h
    have h1 := ih (by omega)
    have h2 := cE_take_of_le E b (e := e + k) (by omega)
    show _ ≤ cE E b (e + k + 1) ∧ cE E b (e + k + 1) ≤ _
    rw [h2]
    split <;> omega
theorem cE_range (n b : Nat) : ∀ e, e ≤ n → cE (List.range n) b e = e - b := by
  intro e
  induction e with
  | zero => intro _; simp [cE]
  | succ e ih =>
    intro h
    rw [cE_take_of_le _ _ (by simp; omega), ih (by omega)]
    have : (List.range n).getD e 0 = e := by simp [List.getD]; rw [List.getElem?_range (by omega)]; rfl
    rw [this]
    split <;> omega
def IsMin (n : Nat) (f : Nat → Nat) (x : Nat) : Prop := (∀ m, m ≤ n → x ≤ f m) ∧ ∃ m, m ≤ n ∧ x = f m
def Prod (n : Nat) (E F G : List Nat) : Prop := ∀ b e, b ≤ n → e ≤ n → IsMin n (fun m => cE E b m + cE F m e) (cE G b e)
theorem prod_start {E : List Nat} {n : Nat} (h : E.length = n) : Prod n E (List.range n) E := by
  intro b e hb he
  refine ⟨fun m hm => ?_, e, he, ?_⟩
  · show cE E b e ≤ cE E b m + cE (List.range n) m e
    rw [cE_range n m e he]
    by_cases q : m ≤ e
    · have := (cE_mono E b (e := m) (e - m) (by omega)).2
      have z : m + (e - m) = e := by omega
      rw [z] at this
      exact this
    · have := (cE_mono E b (e := e) (m - e) (by omega)).1
      have z : e + (m - e) = m := by omega
      rw [z] at this
      omega
  · show cE E b e = cE E b e + cE (List.range n) e e
    rw [cE_range n e e he]
    omega
theorem prod_step {E F G : List Nat} {n p : Nat} (hF : F.length = n) (hG : G.length = n) (hp : p + 1 < n) (h : Prod n E F G) : Prod n E (stepE F p) (stepE G p) := by
  intro b e hb he
  by_cases q : e = p + 1
  · subst q
    rw [cE_step_here (by omega)]
    obtain ⟨a1, m1, l1, e1⟩ := h b p hb (by omega)
    obtain ⟨a2, m2, l2, e2⟩ := h b (p + 2) hb (by omega)
    refine ⟨fun m hm => ?_, ?_⟩
    · show _ ≤ cE E b m + cE (stepE F p) m (p + 1)
      rw [cE_step_here (by omega)]
      have := a1 m hm
      have := a2 m hm
      simp only at *
      omega
    · by_cases z : cE G b p + 1 ≤ cE G b (p + 2)
      · refine ⟨m1, l1, ?_⟩
        show _ = cE E b m1 + cE (stepE F p) m1 (p + 1)
        rw [cE_step_here (by omega)]
        have := a2 m1 l1
        simp only at *
        omega
      · refine ⟨m2, l2, ?_⟩
        show _ = cE E b m2 + cE (stepE F p) m2 (p + 1)
        rw [cE_step_here (by omega)]
        have := a1 m2 l2
        simp only at *
        omega
  · rw [cE_step_other (by omega) b q]
    obtain ⟨a1, m1, l1, e1⟩ := h b e hb he
    refine ⟨fun m hm => ?_, m1, l1, ?_⟩
    · show _ ≤ cE E b m + cE (stepE F p) m e
      rw [cE_step_other (by omega) m q]
      exact a1 m hm
    · show _ = cE E b m1 + cE (stepE F p) m1 e
      rw [cE_step_other (by omega) m1 q]
      exact e1
theorem prod_work {E : List Nat} {n : Nat} : ∀ (st F G : List Nat), F.length = n → G.length = n → (∀ p ∈ st, p + 1 < n) → Prod n E F G → Prod n E (work F st) (work G st) := by
  intro st
  induction st with
  | nil => intro F G _ _ _ h; exact h
  | cons p st ih =>
    intro F G hF hG hs h
    exact ih (stepE F p) (stepE G p) (by rw [stepE_len]; exact hF) (by rw [stepE_len]; exact hG) (fun r hr => hs r (List.mem_cons_of_mem _ hr)) (prod_step hF hG (hs p List.mem_cons_self) h)
def laidL (one st : List Nat) : List Nat := opp (work (opp one) st)
def StepsOf (t st : List Nat) : Prop := (∀ p ∈ st, p + 1 < t.length) ∧ work (List.range t.length) st = opp t
theorem laid_turn {one other st : List Nat} (h1 : Turn one) (hl : one.length = other.length) (hs : StepsOf other st) : Turn (laidL one st) ∧ (laidL one st).length = one.length := by
  have hp : (work (opp one) st).Perm (opp one) := work_perm st _ fun p hp => by rw [opp_len, hl]; exact hs.1 p hp
  have hw : Turn (work (opp one) st) := by
    refine turn_of_perm (n := one.length) (hp.trans ?_)
    have := turn_perm (opp_turn h1)
    rw [opp_len] at this
    exact this
  refine ⟨opp_turn hw, ?_⟩
  unfold laidL
  rw [opp_len, work_len, opp_len]
theorem laid_min {one other st : List Nat} (h1 : Turn one) (h2 : Turn other) (hl : one.length = other.length) (hs : StepsOf other st) {b e : Nat} (hb : b ≤ one.length) (he : e ≤ one.length) :
    IsMin one.length (fun m => cnt one b m + cnt other m e) (cnt (laidL one st) b e) := by
  have hp : (work (opp one) st).Perm (opp one) := work_perm st _ fun p hp => by rw [opp_len, hl]; exact hs.1 p hp
  have hw : Turn (work (opp one) st) := by
    refine turn_of_perm (n := one.length) (hp.trans ?_)
    have := turn_perm (opp_turn h1)
    rw [opp_len] at this
    exact this
  have P : Prod one.length (opp one) (work (List.range one.length) st) (work (opp one) st) :=
    prod_work st _ _ (by simp) (opp_len _) (fun p hp => by rw [hl]; exact hs.1 p hp) (prod_start (opp_len _))
  rw [hl, hs.2, ← hl] at P
  obtain ⟨a, m, hm, e1⟩ := P b e hb he
  have lt := laid_turn h1 hl hs
  have c0 : cnt (laidL one st) b e = cE (work (opp one) st) b e := by
    rw [cnt_eq lt.1 b e (by rw [lt.2]; exact he)]
    unfold laidL
    rw [opp_opp hw]
  have c1 : ∀ m, m ≤ one.length → cnt one b m = cE (opp one) b m := fun m hm => cnt_eq h1 b m hm
  have c2 : ∀ m, cnt other m e = cE (opp other) m e := fun m => cnt_eq h2 m e (by omega)
  refine ⟨fun m hm => ?_, m, hm, ?_⟩
  · show cnt (laidL one st) b e ≤ cnt one b m + cnt other m e
    rw [c0, c1 m hm, c2]
    exact a m hm
  · show cnt (laidL one st) b e = cnt one b m + cnt other m e
    rw [c0, c1 m hm, c2]
    exact e1
end PtM
end
section
namespace PtM
def swapAt (E : List Nat) (p : Nat) : List Nat := (E.set p (E.getD (p + 1) 0)).set (p + 1) (E.getD p 0)
theorem getD_swap {E : List Nat} {p : Nat} (hp : p + 1 < E.length) (i : Nat) : (swapAt E p).getD i 0 = if i = p then E.getD (p + 1) 0 else if i = p + 1 then E.getD p 0 else E.getD i 0 := by
  unfold swapAt
  have h0 : p < E.length := by omega
  simp only [List.getD_eq_getElem?_getD, List.getElem?_set, List.length_set]
  by_cases a : i = p + 1
  · subst a; simp [hp]
  · by_cases b : i = p
    · subst b; simp [h0, a]
    · have : ¬ p + 1 = i := by omega
      have : ¬ p = i := by omega
      simp [*]
theorem swapAt_len (E : List Nat) (p : Nat) : (swapAt E p).length = E.length := by simp [swapAt]
theorem list_ext_getD {a b : List Nat} (h : a.length = b.length) (e : ∀ i, i < a.length → a.getD i 0 = b.getD i 0) : a = b := by
  refine List.ext_getElem h fun i h1 h2 => ?_
  have := e i h1
  simp only [List.getD_eq_getElem?_getD] at this
  simpa [h1, h2] using this
theorem step_swap {E : List Nat} {p : Nat} (hp : p + 1 < E.length) (h : E.getD (p + 1) 0 < E.getD p 0) : stepE (swapAt E p) p = E := by
  have a := getD_swap hp p
  have b := getD_swap hp (p + 1)
  rw [if_pos rfl] at a
  rw [if_neg (by omega), if_pos rfl] at b
  unfold stepE
  rw [a, b, if_pos h]
  refine list_ext_getD (by simp [swapAt]) fun i hi => ?_
  have hp' : p + 1 < (swapAt E p).length := by rw [swapAt_len]; exact hp
  have c := getD_swap hp' i
  unfold swapAt at c
  rw [show ((E.set p (E.getD (p + 1) 0)).set (p + 1) (E.getD p 0)) = swapAt E p from rfl, a, b] at c
  rw [c, getD_swap hp]
  by_cases z : i = p
  · subst z; simp
  · by_cases y : i = p + 1
    · subst y; simp
    · simp [z, y]
structure SI (O E found : List Nat) (stop at_ : Nat) : Prop where
  len : E.length = O.length
  perm : E.Perm O
  le : at_ ≤ stop
  lt : stop < O.length
  ord : ∀ i j, i < j → j ≤ stop → j ≠ at_ → E.getD i 0 < E.getD j 0
  back : work E found.reverse = O
  ok : ∀ p ∈ found, p + 1 < O.length
  few : found.length ≤ stop * O.length + (stop - at_)
theorem SI.swap {O E found : List Nat} {stop p : Nat} (s : SI O E found stop (p + 1)) (h : E.getD (p + 1) 0 < E.getD p 0) : SI O (swapAt E p) (found ++ [p]) stop p := by
  have l := s.len
  have le := s.le
  have lt := s.lt
  have hp : p + 1 < E.length := by omega
  have few := s.few
  refine ⟨by rw [swapAt_len]; exact l, ?_, by omega, lt, ?_, ?_, ?_, by simp; omega⟩
  · have q := stepE_perm (E := swapAt E p) (p := p) (by rw [swapAt_len]; exact hp)
    rw [step_swap hp h] at q
    exact q.symm.trans s.perm
  · intro i j hij hj hne
    rw [getD_swap hp, getD_swap hp]
    have o := s.ord
    by_cases c : j = p + 1
    · subst c
      rw [if_neg (show ¬ p + 1 = p by omega), if_pos (rfl : p + 1 = p + 1)]
      by_cases d : i = p
      · rw [if_pos d]; exact h
      · rw [if_neg d, if_neg (show ¬ i = p + 1 by omega)]
        exact o i p (by omega) (by omega) (by omega)
    · rw [if_neg hne, if_neg c]
      by_cases d : i = p
      · rw [if_pos d]; exact o (p + 1) j (by omega) hj (by omega)
      · rw [if_neg d]
        by_cases f : i = p + 1
        · rw [if_pos f]; exact o p j (by omega) hj c
        · rw [if_neg f]; exact o i j hij hj c
  · rw [List.reverse_append]
    show work (stepE (swapAt E p) p) found.reverse = O
    rw [step_swap hp h]
    exact s.back
  · intro q hq
    rcases List.mem_append.mp hq with hq | hq
    · exact s.ok q hq
    · have : q = p := by simpa using hq
      omega
structure SO (O E found : List Nat) (stop : Nat) : Prop where
  len : E.length = O.length
  perm : E.Perm O
  le : stop ≤ O.length
  ord : ∀ i j, i < j → j < stop → E.getD i 0 < E.getD j 0
  back : work E found.reverse = O
  ok : ∀ p ∈ found, p + 1 < O.length
  few : found.length ≤ stop * O.length
theorem SO.start (O : List Nat) : SO O O [] 0 := ⟨rfl, .refl _, by omega, by omega, rfl, by simp, by simp⟩
theorem SO.inn {O E found : List Nat} {stop : Nat} (s : SO O E found stop) (h : stop < O.length) : SI O E found stop stop :=
  ⟨s.len, s.perm, by omega, h, fun i j a b c => s.ord i j a (by omega), s.back, s.ok, by have := s.few; omega⟩
theorem SI.out {O E found : List Nat} {stop at_ : Nat} (s : SI O E found stop at_) (hO : O.Nodup) (h : at_ = 0 ∨ E.getD (at_ - 1) 0 ≤ E.getD at_ 0) : SO O E found (stop + 1) := by
  have hn : E.Nodup := s.perm.nodup_iff.mpr hO
  have l := s.len
  have lt := s.lt
  have le := s.le
  refine ⟨l, s.perm, by omega, fun i j hij hj => ?_, s.back, s.ok, ?_⟩
  · by_cases c : j = at_
    · subst c
      rcases h with h | h
      · omega
      · have ne : E.getD (j - 1) 0 ≠ E.getD j 0 := by
          have h1 : j - 1 < E.length := by omega
          have h2 : j < E.length := by omega
          simp only [List.getD_eq_getElem?_getD, List.getElem?_eq_getElem h1, List.getElem?_eq_getElem h2, Option.getD_some]
          intro z
          have := (List.getElem_inj hn).mp z
          omega
        by_cases d : i = j - 1
        · subst d; omega
        · have := s.ord i (j - 1) (by omega) (by omega) (by omega)
          omega
    · exact s.ord i j hij (by omega) c
  · have := s.few
    have e : (stop + 1) * O.length = stop * O.length + O.length := by rw [Nat.add_mul]; omega
    omega
theorem sorted_range {E : List Nat} {n : Nat} (hp : E.Perm (List.range n)) (ho : ∀ i j, i < j → j < n → E.getD i 0 < E.getD j 0) : E = List.range n := by
  have hl : E.length = n := by rw [hp.length_eq]; simp
  have low : ∀ i, i < n → i ≤ E.getD i 0 := by
    intro i
    induction i with
    | zero => intro _; omega
    | succ i ih =>
      intro h
      have := ih (by omega)
      have := ho i (i + 1) (by omega) h
      omega
  have high : ∀ k i, i + k + 1 = n → E.getD i 0 ≤ i := by
    intro k
    induction k with
    | zero =>
      intro i h
      have h1 : i < E.length := by omega
      have : E[i] ∈ List.range n := hp.subset (List.getElem_mem h1)
      have := List.mem_range.mp this
      simp only [List.getD_eq_getElem?_getD, List.getElem?_eq_getElem h1, Option.getD_some]
      omega
    | succ k ih =>
      intro i h
      have := ih (i + 1) (by omega)
      have := ho i (i + 1) (by omega) (by omega)
      omega
  refine list_ext_getD (by simp [hl]) fun i hi => ?_
  have h1 := low i (by omega)
  have h2 := high (n - 1 - i) i (by omega)
  have h3 : (List.range n).getD i 0 = i := by simp [List.getD_eq_getElem?_getD, List.getElem?_range (show i < n by omega)]
  omega
theorem SO.done {t E found : List Nat} (ht : Turn t) (s : SO (opp t) E found (opp t).length) : StepsOf t found.reverse := by
  have pr : (opp t).Perm (List.range t.length) := by
    have := turn_perm (opp_turn ht)
    rw [opp_len] at this
    exact this
  have e : E = List.range t.length := sorted_range (s.perm.trans pr) fun i j a b => s.ord i j a (by rw [opp_len]; exact b)
  refine ⟨fun p hp => ?_, ?_⟩
  · have := s.ok p (List.mem_reverse.mp hp)
    rw [opp_len] at this
    exact this
  · rw [← e]; exact s.back
end PtM
end
section
namespace PtM
def Com (a b c : List Nat) : Prop := c.Sublist a ∧ c.Sublist b
def IsLcs (a b : List Nat) (L : Nat) : Prop := (∃ c, Com a b c ∧ c.length = L) ∧ ∀ c, Com a b c → c.length ≤ L
theorem most (P : Nat → Prop) (h0 : P 0) : ∀ B, (∀ n, P n → n ≤ B) → ∃ m, P m ∧ ∀ n, P n → n ≤ m := by
  intro B
  induction B with
  | zero => intro h; exact ⟨0, h0, h⟩
  | succ B ih =>
    intro h
    by_cases q : P (B + 1)
    · exact ⟨B + 1, q, h⟩
    · refine ih fun n hn => ?_
      have := h n hn
      by_cases z : n = B + 1
      · subst z; exact absurd hn q
      · omega
theorem lcs_ex (a b : List Nat) : ∃ L, IsLcs a b L := by
  obtain ⟨m, ⟨c, h1, h2⟩, h3⟩ := most (fun n => ∃ c, Com a b c ∧ c.length = n) ⟨[], ⟨List.nil_sublist _, List.nil_sublist _⟩, rfl⟩ a.length (by
    rintro n ⟨c, h, rfl⟩
    exact h.1.length_le)
  exact ⟨m, ⟨c, h1, h2⟩, fun c hc => h3 _ ⟨c, hc, rfl⟩⟩
noncomputable def lcs (a b : List Nat) : Nat := Classical.choose (lcs_ex a b)
theorem lcs_is (a b : List Nat) : IsLcs a b (lcs a b) := Classical.choose_spec (lcs_ex a b)
theorem IsLcs.uniq {a b : List Nat} {L M : Nat} (h : IsLcs a b L) (k : IsLcs a b M) : L = M := by
  obtain ⟨⟨c, h1, e1⟩, h2⟩ := h
  obtain ⟨⟨d, k1, f1⟩, k2⟩ := k
  have := h2 d k1
  have := k2 c h1
  omega
theorem IsLcs.eq {a b : List Nat} {L : Nat} (h : IsLcs a b L) : L = lcs a b := h.uniq (lcs_is a b)
theorem lcs_ge {a b c : List Nat} (h : Com a b c) : c.length ≤ lcs a b := (lcs_is a b).2 c h
theorem lcs_le_left (a b : List Nat) : lcs a b ≤ a.length := by
  obtain ⟨⟨c, h, e⟩, _⟩ := lcs_is a b
  have := h.1.length_le
  omega
theorem lcs_le_right (a b : List Nat) : lcs a b ≤ b.length := by
  obtain ⟨⟨c, h, e⟩, _⟩ := lcs_is a b
  have := h.2.length_le
  omega
theorem lcs_of {a b : List Nat} {L : Nat} (h1 : ∃ c, Com a b c ∧ c.length = L) (h2 : ∀ c, Com a b c → c.length ≤ L) : lcs a b = L := (IsLcs.eq ⟨h1, h2⟩).symm
theorem lcs_mono {a a' b b' : List Nat} (ha : a.Sublist a') (hb : b.Sublist b') : lcs a b ≤ lcs a' b' := by
  obtain ⟨⟨c, h, e⟩, _⟩ := lcs_is a b
  have := lcs_ge (a := a') (b := b') ⟨h.1.trans ha, h.2.trans hb⟩
  omega
theorem lcs_split (a1 a2 b : List Nat) : (∀ k, k ≤ b.length → lcs a1 (b.take k) + lcs a2 (b.drop k) ≤ lcs (a1 ++ a2) b) ∧ ∃ k, k ≤ b.length ∧ lcs (a1 ++ a2) b = lcs a1 (b.take k) + lcs a2 (b.drop k) := by
  have low : ∀ k, k ≤ b.length → lcs a1 (b.take k) + lcs a2 (b.drop k) ≤ lcs (a1 ++ a2) b := by
    intro k hk
    obtain ⟨⟨c, h, e⟩, _⟩ := lcs_is a1 (b.take k)
    obtain ⟨⟨d, g, f⟩, _⟩ := lcs_is a2 (b.drop k)
    have : (c ++ d).length ≤ lcs (a1 ++ a2) b := by
      refine lcs_ge ⟨h.1.append g.1, ?_⟩
      conv => rhs; rw [← List.take_append_drop k b]
      exact h.2.append g.2
    rw [List.length_append] at this
    omega
  refine ⟨low, ?_⟩
  obtain ⟨⟨c, h, e⟩, _⟩ := lcs_is (a1 ++ a2) b
  obtain ⟨c1, c2, ec, h1, h2⟩ := List.sublist_append_iff.mp h.1
  subst ec
  obtain ⟨b1, b2, eb, g1, g2⟩ := List.append_sublist_iff.mp h.2
  subst eb
  refine ⟨b1.length, by simp, ?_⟩
  have t1 : (b1 ++ b2).take b1.length = b1 := by simp
  have t2 : (b1 ++ b2).drop b1.length = b2 := by simp
  have l := low b1.length (by simp)
  rw [t1, t2] at l ⊢
  have z1 := lcs_ge (a := a1) (b := b1) ⟨h1, g1⟩
  have z2 := lcs_ge (a := a2) (b := b2) ⟨h2, g2⟩
  rw [List.length_append] at e
  omega
theorem lcs_nil_left (b : List Nat) : lcs [] b = 0 := by have := lcs_le_left [] b; simpa using this
theorem lcs_nil_right (a : List Nat) : lcs a [] = 0 := by have := lcs_le_right a []; simpa using this
theorem lcs_one (x : Nat) (b : List Nat) : lcs [x] b = if x ∈ b then 1 else 0 := by
  split
  · rename_i h
    refine lcs_of ⟨[x], ⟨List.Sublist.refl _, List.singleton_sublist.mpr h⟩, rfl⟩ fun c hc => ?_
    have := hc.1.length_le
    simpa using this
  · rename_i h
    refine lcs_of ⟨[], ⟨List.nil_sublist _, List.nil_sublist _⟩, rfl⟩ fun c hc => ?_
    cases c with
    | nil => simp
    | cons y c =>
      have h1 : y ∈ [x] := hc.1.subset List.mem_cons_self
      have h2 : y ∈ b := hc.2.subset List.mem_cons_self
      have : y = x := by simpa using h1
      subst this
      exact absurd h2 h
theorem sub_snoc {c a : List Nat} {x : Nat} (h : c.Sublist (a ++ [x])) : c.Sublist a ∨ ∃ d, c = d ++ [x] ∧ d.Sublist a := by
  obtain ⟨c1, c2, rfl, h1, h2⟩ := List.sublist_append_iff.mp h
  cases c2 with
  | nil => left; simpa using h1
  | cons y r =>
    right
    have l := h2.length_le
    have hm : y ∈ [x] := h2.subset List.mem_cons_self
    have : y = x := by simpa using hm
    subst this
    have : r = [] := by
      cases r with
      | nil => rfl
      | cons _ _ => simp at l
    subst this
    exact ⟨c1, rfl, h1⟩
theorem lcs_same (a b : List Nat) (x : Nat) : lcs (a ++ [x]) (b ++ [x]) = lcs a b + 1 := by
  obtain ⟨⟨c, h, e⟩, _⟩ := lcs_is a b
  refine lcs_of ⟨c ++ [x], ⟨h.1.append (List.Sublist.refl _), h.2.append (List.Sublist.refl _)⟩, by simp [e]⟩ fun d hd => ?_
  rcases sub_snoc hd.1 with h1 | ⟨d1, rfl, h1⟩
  · rcases sub_snoc hd.2 with h2 | ⟨d2, rfl, h2⟩
    · have := lcs_ge ⟨h1, h2⟩; omega
    · have := lcs_ge (a := a) (b := b) (c := d2) ⟨(List.sublist_append_left _ _).trans h1, h2⟩
      simp; omega
  · rcases sub_snoc hd.2 with h2 | ⟨d2, e2, h2⟩
    · have := lcs_ge (a := a) (b := b) (c := d1) ⟨h1, (List.sublist_append_left _ _).trans h2⟩
      simp; omega
    · have : d1 = d2 := by simpa using e2
      subst this
      have := lcs_ge (a := a) (b := b) (c := d1) ⟨h1, h2⟩
      simp; omega
theorem lcs_diff (a b : List Nat) {x y : Nat} (hxy : x ≠ y) : lcs (a ++ [x]) (b ++ [y]) = max (lcs (a ++ [x]) b) (lcs a (b ++ [y])) := by
  have m1 := lcs_mono (a := a ++ [x]) (a' := a ++ [x]) (b := b) (b' := b ++ [y]) (List.Sublist.refl _) (List.sublist_append_left _ _)
  have m2 := lcs_mono (a := a) (a' := a ++ [x]) (b := b ++ [y]) (b' := b ++ [y]) (List.sublist_append_left _ _) (List.Sublist.refl _)
  have m3 : lcs (a ++ [x]) (b ++ [y]) ≤ max (lcs (a ++ [x]) b) (lcs a (b ++ [y])) := by
    obtain ⟨⟨c, h, e⟩, _⟩ := lcs_is (a ++ [x]) (b ++ [y])
    rcases sub_snoc h.1 with h1 | ⟨d1, rfl, h1⟩
    · have := lcs_ge (a := a) (b := b ++ [y]) ⟨h1, h.2⟩; omega
    · rcases sub_snoc h.2 with h2 | ⟨d2, e2, h2⟩
      · have := lcs_ge (a := a ++ [x]) (b := b) ⟨h.1, h2⟩; omega
      · have := List.append_inj' e2 rfl
        simp at this
        exact absurd this.2 hxy
  omega
def part (dot : Nat) (l : List Nat) : List Nat := l.flatMap fun x => [dot, x]
theorem part_snoc (dot : Nat) (l : List Nat) (x : Nat) : part dot (l ++ [x]) = part dot l ++ [dot] ++ [x] := by simp [part]
theorem part_len (dot : Nat) (l : List Nat) : (part dot l).length = 2 * l.length := by
  induction l with
  | nil => rfl
  | cons x l ih => simp [part] at ih ⊢; omega
theorem part_app (dot : Nat) (l m : List Nat) : part dot (l ++ m) = part dot l ++ part dot m := by simp [part]
theorem part_drop (dot : Nat) : ∀ (l : List Nat) (i : Nat), (part dot l).drop (2 * i) = part dot (l.drop i) := by
  intro l
  induction l with
  | nil => intro i; simp [part]
  | cons x l ih =>
    intro i
    cases i with
    | zero => simp
    | succ i =>
      have : 2 * (i + 1) = 2 * i + 1 + 1 := by omega
      rw [this]
      show ((dot :: x :: part dot l).drop (2 * i + 1 + 1)) = _
      simp [ih]
theorem part_take (dot : Nat) : ∀ (l : List Nat) (i : Nat), (part dot l).take (2 * i) = part dot (l.take i) := by
  intro l
  induction l with
  | nil => intro i; simp [part]
  | cons x l ih =>
    intro i
    cases i with
    | zero => simp [part]
    | succ i =>
      have : 2 * (i + 1) = 2 * i + 1 + 1 := by omega
      rw [this]
      show ((dot :: x :: part dot l).take (2 * i + 1 + 1)) = dot :: x :: part dot (l.take i)
      simp [ih]
noncomputable def cost (dot : Nat) (a b : List Nat) : Int := (a.length : Int) + b.length - lcs (part dot a) (part dot b)
theorem cost_nil_left (dot : Nat) (b : List Nat) : cost dot [] b = b.length := by
  have : lcs (part dot []) (part dot b) = 0 := lcs_nil_left _
  simp [cost, this]
theorem cost_nil_right (dot : Nat) (a : List Nat) : cost dot a [] = a.length := by
  have : lcs (part dot a) (part dot []) = 0 := lcs_nil_right _
  simp [cost, this]
theorem cost_nonneg (dot : Nat) (a b : List Nat) : 0 ≤ cost dot a b := by
  have h1 := lcs_le_left (part dot a) (part dot b)
  have h2 := lcs_le_right (part dot a) (part dot b)
  rw [part_len] at h1 h2
  unfold cost
  omega
theorem cost_snoc {dot : Nat} {a b : List Nat} {x y : Nat} (hx : x ≠ dot) (hy : y ≠ dot) :
    cost dot (a ++ [x]) (b ++ [y]) = min (min (cost dot a (b ++ [y]) + 1) (cost dot (a ++ [x]) b + 1)) (cost dot a b + (if x = y then 0 else 1)) := by
  have A : ∀ (p q : List Nat) (x y : Nat), x ≠ y → lcs (p ++ [dot] ++ [x]) (q ++ [dot] ++ [y]) = max (lcs (p ++ [dot] ++ [x]) (q ++ [dot])) (lcs (p ++ [dot]) (q ++ [dot] ++ [y])) := fun p q x y h => lcs_diff _ _ h
  generalize hA : part dot a = P
  generalize hB : part dot b = R
  have ex : lcs (P ++ [dot] ++ [x]) (R ++ [dot]) = max (lcs (P ++ [dot] ++ [x]) R) (lcs P R + 1) := by
    rw [lcs_diff _ _ hx, lcs_same]
  have ey : lcs (P ++ [dot]) (R ++ [dot] ++ [y]) = max (lcs P R + 1) (lcs P (R ++ [dot] ++ [y])) := by
    rw [lcs_diff _ _ (Ne.symm hy), lcs_same]
  have m1 : lcs (P ++ [dot] ++ [x]) R ≤ lcs (P ++ [dot] ++ [x]) (R ++ [dot] ++ [y]) := lcs_mono (List.Sublist.refl _) ((List.sublist_append_left _ _).trans (List.sublist_append_left _ _))
  have m2 : lcs P (R ++ [dot] ++ [y]) ≤ lcs (P ++ [dot] ++ [x]) (R ++ [dot] ++ [y]) := lcs_mono ((List.sublist_append_left _ _).trans (List.sublist_append_left _ _)) (List.Sublist.refl _)
  unfold cost
  simp only [part_snoc, hA, hB, List.length_append, List.length_singleton]
  by_cases e : x = y
  · subst e
    have s : lcs (P ++ [dot] ++ [x]) (R ++ [dot] ++ [x]) = lcs P R + 2 := by rw [lcs_same, lcs_same]
    rw [s] at m1 m2 ⊢
    simp only [if_true]
    omega
  · rw [if_neg e, lcs_diff _ _ e, ex, ey]
    omega
end PtM
end
section
namespace PtM
theorem cnt_app (p r : List Nat) (b e : Nat) : cnt (p ++ r) b e = cnt p b e + cnt r (b - p.length) e := by
  unfold cnt
  rw [List.drop_append, List.countP_append]
theorem cnt_none {t : List Nat} {b e : Nat} (h : ∀ x ∈ t, e ≤ x) : cnt t b e = 0 := by
  unfold cnt
  rw [List.countP_eq_zero]
  intro x hx
  have := h x (List.drop_subset _ _ hx)
  simp; omega
theorem cnt_shift (t : List Nat) (m b e : Nat) : cnt (t.map (fun x => m + x)) b e = cnt t b (e - m) := by
  unfold cnt
  rw [← List.map_drop, List.countP_map]
  congr 1
  funext x
  simp only [Function.comp]
  by_cases q : m + x < e
  · have : x < e - m := by omega
    simp [*]
  · have : ¬ x < e - m := by omega
    simp [*]
theorem cnt_past {t : List Nat} {b e : Nat} (h : t.length ≤ b) : cnt t b e = 0 := by
  unfold cnt; rw [List.drop_eq_nil_of_le h]; rfl
theorem cnt_le_e (t : List Nat) (b : Nat) {e f : Nat} (h : e ≤ f) : cnt t b e ≤ cnt t b f := by
  unfold cnt
  refine List.countP_mono_left fun x _ hx => ?_
  simp at hx ⊢; omega
theorem cnt_succ_b {t : List Nat} {b : Nat} (h : b < t.length) (e : Nat) : cnt t b e = cnt t (b + 1) e + (if t[b] < e then 1 else 0) := by
  unfold cnt
  rw [List.drop_eq_getElem_cons h, List.countP_cons]
  by_cases q : t[b] < e <;> simp [q]
theorem cnt_b (t : List Nat) (e b : Nat) : ∀ k, cnt t (b + k) e ≤ cnt t b e ∧ cnt t b e ≤ cnt t (b + k) e + k := by
  intro k
  induction k with
  | zero => simp
  | succ k ih =>
    by_cases h : b + k < t.length
    · have := cnt_succ_b h e
      show cnt t (b + k + 1) e ≤ _ ∧ _ ≤ cnt t (b + k + 1) e + _
      split at this <;> omega
    · have z1 := cnt_past (t := t) (b := b + k) (e := e) (by omega)
      have z2 := cnt_past (t := t) (b := b + (k + 1)) (e := e) (by omega)
      omega
theorem cnt_e {t : List Nat} (h : Turn t) (b e k : Nat) (hk : e + k ≤ t.length) : cnt t b e ≤ cnt t b (e + k) ∧ cnt t b (e + k) ≤ cnt t b e + k := by
  rw [cnt_eq h b e (by omega), cnt_eq h b (e + k) hk]
  exact cE_mono _ _ k (by rw [opp_len]; exact hk)
theorem cnt_range (n b e : Nat) (h : e ≤ n) : cnt (List.range n) b e = e - b := by
  rw [cnt_eq (turn_range n) b e (by simpa using h)]
  have : opp (List.range n) = List.range n := by
    refine List.ext_getElem (by simp [opp_len]) fun i h1 h2 => ?_
    rw [opp_get]
    have hi : i < (List.range n).length := h2
    have := get_idx (turn_range n) hi
    simpa using this
  rw [this]
  exact cE_range n b e h
theorem cnt_all {t : List Nat} (h : Turn t) (b : Nat) : cnt t b t.length = t.length - b := by
  unfold cnt
  rw [List.countP_eq_length.mpr, List.length_drop]
  intro x hx
  have := h.2 x (List.drop_subset _ _ hx)
  simpa using this
theorem cnt_zero_b {t : List Nat} (h : Turn t) (e : Nat) (he : e ≤ t.length) : cnt t 0 e = e := by
  have a := (cnt_e h 0 0 e (by omega)).2
  have b := (cnt_e h 0 e (t.length - e) (by omega)).2
  have c := cnt_all h 0
  have z : e + (t.length - e) = t.length := by omega
  have w : cnt t 0 0 = 0 := cnt_none fun _ _ => Nat.zero_le _
  rw [z] at b
  simp only [Nat.zero_add] at a
  omega
theorem low_of {t : List Nat} {s e : Nat} (h : cnt t s e = 0) (hs : s < t.length) : e ≤ t[s] := by
  have := cnt_succ_b hs e
  split at this <;> omega
theorem cnt_low {t : List Nat} {b e : Nat} (h : ∀ s (hs : s < t.length), b ≤ s → e ≤ t[s]) : cnt t b e = 0 := by
  unfold cnt
  rw [List.countP_eq_zero]
  intro x hx
  obtain ⟨i, hi, rfl⟩ := List.getElem_of_mem hx
  rw [List.getElem_drop]
  simp at hi
  have := h (b + i) (by omega) (by omega)
  simp; omega
structure PcOk (a b t : List Nat) : Prop where
  turn : Turn t
  len : t.length = a.length + b.length
  low : ∀ s (hs : s < t.length), s ≤ t[s] + a.length
  win : ∀ i j, i ≤ j → j ≤ b.length → cnt t (a.length + i) j + lcs a ((b.take j).drop i) = j - i
theorem pc_nil_top (a : List Nat) : PcOk a [] (List.range a.length) := by
  refine ⟨turn_range _, by simp, fun s hs => by simp, fun i j h1 h2 => ?_⟩
  have : j = 0 := by simpa using h2
  subst this
  have : i = 0 := by omega
  subst this
  have : cnt (List.range a.length) (a.length + 0) 0 = 0 := cnt_none fun _ _ => Nat.zero_le _
  rw [this]
  simp [lcs_nil_right]
theorem pc_nil_side (b : List Nat) : PcOk [] b (List.range b.length) := by
  refine ⟨turn_range _, by simp, fun s hs => by simp, fun i j h1 h2 => ?_⟩
  rw [cnt_range _ _ _ h2, lcs_nil_left]
  simp
theorem two_low {p q : Nat} : ∀ s (hs : s < [p, q].length), s ≤ [p, q][s] + 1
  | 0, _ => Nat.zero_le _
  | 1, _ => Nat.le_add_left _ _
theorem pc_one (x y : Nat) : PcOk [x] [y] (if x = y then [0, 1] else [1, 0]) := by
  have w : ∀ i j, i ≤ j → j ≤ 1 → (i = j) ∨ (i = 0 ∧ j = 1) := by omega
  by_cases e : x = y
  · subst e
    simp only [if_true]
    refine ⟨⟨by decide, by decide⟩, rfl, two_low, fun i j h1 h2 => ?_⟩
    rcases w i j h1 h2 with rfl | ⟨rfl, rfl⟩
    · have : (List.take i [x]).drop i = [] := List.drop_eq_nil_of_le (by simp; omega)
      rw [this, lcs_nil_right]
      have : i = 0 ∨ i = 1 := by have : i ≤ 1 := h2; omega
      rcases this with rfl | rfl
      · show cnt [0, 1] 1 0 + 0 = 0; decide
      · show cnt [0, 1] 2 1 + 0 = 0; decide
    · show cnt [0, 1] 1 1 + lcs [x] [x] = 1
      rw [lcs_one]
      simp
      decide
  · rw [if_neg e]
    refine ⟨⟨by decide, by decide⟩, rfl, two_low, fun i j h1 h2 => ?_⟩
    rcases w i j h1 h2 with rfl | ⟨rfl, rfl⟩
    · have : (List.take i [y]).drop i = [] := List.drop_eq_nil_of_le (by simp; omega)
      rw [this, lcs_nil_right]
      have : i = 0 ∨ i = 1 := by have : i ≤ 1 := h2; omega
      rcases this with rfl | rfl
      · show cnt [1, 0] 1 0 + 0 = 0; decide
      · show cnt [1, 0] 2 1 + 0 = 0; decide
    · show cnt [1, 0] 1 1 + lcs [x] [y] = 1
      rw [lcs_one]
      simp [e]
      decide
def from_ (n k : Nat) : List Nat := (List.range k).map (fun i => n + i)
theorem from_len (n k : Nat) : (from_ n k).length = k := by simp [from_]
theorem range_app (n k : Nat) : List.range (n + k) = List.range n ++ from_ n k := List.range_add
theorem turn_app {t : List Nat} {n k : Nat} (h : Turn t) (hn : t.length = n) : Turn (t ++ from_ n k) := by
  refine turn_of_perm (n := n + k) ?_
  rw [range_app]
  have := turn_perm h
  rw [hn] at this
  exact this.append_right _
theorem turn_pre {t : List Nat} {m : Nat} (h : Turn t) : Turn (List.range m ++ t.map (fun x => m + x)) := by
  refine turn_of_perm (n := m + t.length) ?_
  rw [range_app]
  exact ((turn_perm h).map _).append_left _
theorem get_app_from {t : List Nat} {n k s : Nat} (hn : t.length = n) (hs : s < (t ++ from_ n k).length) (h : n ≤ s) : (t ++ from_ n k)[s] = s := by
  rw [List.getElem_append_right (by omega)]
  simp [from_]
  omega
theorem get_pre_lo {t : List Nat} {m s : Nat} (hs : s < (List.range m ++ t.map (fun x => m + x)).length) (h : s < m) : (List.range m ++ t.map (fun x => m + x))[s] = s := by
  rw [List.getElem_append_left (by simpa using h)]
  simp
theorem get_pre_hi {t : List Nat} {m s : Nat} (hs : s < (List.range m ++ t.map (fun x => m + x)).length) (h : m ≤ s) : (List.range m ++ t.map (fun x => m + x))[s] = m + t[s - m]'(by simp at hs; omega) := by
  rw [List.getElem_append_right (by simpa using h)]
  simp
theorem cnt_pre (t : List Nat) (m b e : Nat) : cnt (List.range m ++ t.map (fun x => m + x)) (m + b) e = cnt t b (e - m) := by
  rw [cnt_app, cnt_past (by simp), cnt_shift]
  simp
theorem cnt_pre_lo {t : List Nat} (ht : Turn t) {m b e : Nat} (hb : b ≤ m) (he : m ≤ e) (hl : e - m ≤ t.length) : cnt (List.range m ++ t.map (fun x => m + x)) b e = (m - b) + (e - m) := by
  rw [cnt_app, cnt_shift]
  have h1 : cnt (List.range m) b e = m - b := by
    have := cnt_le_e (List.range m) b he
    have h2 := cnt_range m b m (Nat.le_refl _)
    have h3 : cnt (List.range m) b e ≤ m - b := by
      unfold cnt
      refine Nat.le_trans List.countP_le_length ?_
      simp
    omega
  have h4 : b - (List.range m).length = 0 := by simp; omega
  rw [h1, h4, cnt_zero_b ht _ hl]
theorem cnt_pre_small (t : List Nat) {m b e : Nat} (he : e ≤ m) : cnt (List.range m ++ t.map (fun x => m + x)) b e = e - b := by
  rw [cnt_app, cnt_range m b e he, cnt_none (t := t.map (fun x => m + x))]
  · rfl
  · intro x hx
    obtain ⟨y, _, rfl⟩ := List.mem_map.mp hx
    omega
theorem cnt_suf {t : List Nat} {n k b e : Nat} (hn : t.length = n) (he : e ≤ n) : cnt (t ++ from_ n k) b e = cnt t b e := by
  rw [cnt_app, cnt_none (t := from_ n k)]
  · rfl
  · intro x hx
    obtain ⟨y, _, rfl⟩ := List.mem_map.mp hx
    omega
theorem cnt_suf_hi {t : List Nat} (ht : Turn t) {n k b e : Nat} (hn : t.length = n) (he : n ≤ e) (hb : b ≤ n) (hk : e ≤ n + k) : cnt (t ++ from_ n k) b e = (n - b) + (e - n) := by
  rw [cnt_app]
  have h1 : cnt t b e = n - b := by
    have a := cnt_le_e t b (e := t.length) (f := e) (by omega)
    have c := cnt_all ht b
    have d : cnt t b e ≤ (t.drop b).length := List.countP_le_length
    simp at d
    omega
  have h2 : cnt (from_ n k) (b - t.length) e = e - n := by
    have z : b - t.length = 0 := by omega
    rw [z]
    unfold from_
    rw [cnt_shift, cnt_range _ _ _ (by omega)]
    omega
  omega
theorem cnt_suf_past {t : List Nat} {n k b e : Nat} (hn : t.length = n) (hb : n ≤ b) (hk : e ≤ n + k) : cnt (t ++ from_ n k) b e = e - b := by
  rw [cnt_app, cnt_past (by omega)]
  unfold from_
  rw [cnt_shift, cnt_range _ _ _ (by omega)]
  omega
theorem pc_over {a1 a2 b t1 t2 st : List Nat} (h1 : PcOk a1 b t1) (h2 : PcOk a2 b t2)
    (hs : StepsOf (t2 ++ from_ t2.length a1.length) st) : PcOk (a1 ++ a2) b (laidL (List.range a2.length ++ t1.map (fun x => a2.length + x)) st) := by
  obtain ⟨m1, e1⟩ : ∃ m, m = a1.length := ⟨_, rfl⟩
  obtain ⟨m2, e2⟩ : ∃ m, m = a2.length := ⟨_, rfl⟩
  obtain ⟨n, en⟩ : ∃ m, m = b.length := ⟨_, rfl⟩
  have l1 := h1.len
  have l2 := h2.len
  rw [← e1, ← en] at l1
  rw [← e2, ← en] at l2
  rw [← e1, l2] at hs
  rw [← e2]
  have T1 : Turn (List.range m2 ++ t1.map (fun x => m2 + x)) := turn_pre h1.turn
  have T2 : Turn (t2 ++ from_ (m2 + n) m1) := turn_app h2.turn l2
  have L1 : (List.range m2 ++ t1.map (fun x => m2 + x)).length = m1 + m2 + n := by simp; omega
  have L2 : (t2 ++ from_ (m2 + n) m1).length = m1 + m2 + n := by rw [List.length_append, from_len]; omega
  obtain ⟨TL, LL⟩ := laid_turn T1 (by rw [L1, L2]) hs
  have mn := fun (p e : Nat) (hp : p ≤ m1 + m2 + n) (he : e ≤ m1 + m2 + n) => laid_min (b := p) (e := e) T1 T2 (by rw [L1, L2]) hs (by rw [L1]; exact hp) (by rw [L1]; exact he)
  rw [L1] at mn LL
  have la : (a1 ++ a2).length = m1 + m2 := by rw [List.length_append]; omega
  refine ⟨TL, by rw [LL, la, ← en], fun s hsl => ?_, fun i j hij hj => ?_⟩
  · rw [la]
    rw [LL] at hsl
    by_cases q : s < m1 + m2
    · omega
    · have z : cnt (laidL (List.range m2 ++ t1.map (fun x => m2 + x)) st) s (s - (m1 + m2)) = 0 := by
        have := (mn s (s - (m1 + m2)) (by omega) (by omega)).1 (s - m1) (by omega)
        simp only at this
        have c1 : cnt (List.range m2 ++ t1.map (fun x => m2 + x)) s (s - m1) = 0 := by
          refine cnt_low fun r hr hsr => ?_
          rw [get_pre_hi hr (by omega)]
          have := h1.low (r - m2) (by rw [L1] at hr; omega)
          omega
        have c2 : cnt (t2 ++ from_ (m2 + n) m1) (s - m1) (s - (m1 + m2)) = 0 := by
          refine cnt_low fun r hr hsr => ?_
          by_cases w : r < m2 + n
          · rw [List.getElem_append_left (by omega)]
            have := h2.low r (by omega)
            omega
          · rw [get_app_from l2 hr (by omega)]
            omega
        omega
      have := low_of z (by rw [LL]; omega)
      omega
  · rw [la]
    rw [← en] at hj
    have lw : ((b.take j).drop i).length = j - i := by simp; omega
    obtain ⟨sp, k0, hk0, ek0⟩ := lcs_split a1 a2 ((b.take j).drop i)
    rw [lw] at sp hk0
    -- what the sum is at the middles that count
    have at_ : ∀ k, k ≤ j - i → cnt (List.range m2 ++ t1.map (fun x => m2 + x)) (m1 + m2 + i) (m2 + i + k) + cnt (t2 ++ from_ (m2 + n) m1) (m2 + i + k) j
        + (lcs a1 (((b.take j).drop i).take k) + lcs a2 (((b.take j).drop i).drop k)) = j - i := by
      intro k hk
      have w1 := h1.win i (i + k) (by omega) (by omega)
      have w2 := h2.win (i + k) j (by omega) (by omega)
      rw [← e1] at w1
      rw [← e2] at w2
      have c1 : cnt (List.range m2 ++ t1.map (fun x => m2 + x)) (m1 + m2 + i) (m2 + i + k) = cnt t1 (m1 + i) (i + k) := by
        have : m1 + m2 + i = m2 + (m1 + i) := by omega
        rw [this, cnt_pre]
        congr 1
        omega
      have c2 : cnt (t2 ++ from_ (m2 + n) m1) (m2 + i + k) j = cnt t2 (m2 + (i + k)) j := by
        rw [cnt_suf l2 (by omega)]
        congr 1
        omega
      have p1 : ((b.take j).drop i).take k = (b.take (i + k)).drop i := by
        rw [List.take_drop, List.take_take]
        congr 2
        omega
      have p2 : ((b.take j).drop i).drop k = (b.take j).drop (i + k) := by rw [List.drop_drop]
      rw [c1, c2, p1, p2]
      omega
    obtain ⟨lo, mid, hm, em⟩ := mn (m1 + m2 + i) j (by omega) (by omega)
    have up := lo (m2 + i + k0) (by omega)
    have ak := at_ k0 hk0
    simp only at up em
    have dn : j - i ≤ cnt (laidL (List.range m2 ++ t1.map (fun x => m2 + x)) st) (m1 + m2 + i) j + lcs (a1 ++ a2) ((b.take j).drop i) := by
      rw [em]
      by_cases q1 : mid < m2 + i
      · have k := at_ 0 (by omega)
        have s0 := sp 0 (by omega)
        have z : cnt (List.range m2 ++ t1.map (fun x => m2 + x)) (m1 + m2 + i) (m2 + i + 0) = 0 := by
          have : m1 + m2 + i = m2 + (m1 + i) := by omega
          rw [this, cnt_pre]
          have w1 := h1.win i i (by omega) (by omega)
          rw [← e1] at w1
          have : m2 + i + 0 - m2 = i := by omega
          rw [this]
          omega
        have d := (cnt_b (t2 ++ from_ (m2 + n) m1) j mid (m2 + i - mid)).1
        have y : mid + (m2 + i - mid) = m2 + i + 0 := by omega
        rw [y] at d
        omega
      · by_cases q2 : m2 + j < mid
        · have k := at_ (j - i) (by omega)
          have s0 := sp (j - i) (by omega)
          have y : m2 + i + (j - i) = m2 + j := by omega
          rw [y] at k
          have z : cnt (t2 ++ from_ (m2 + n) m1) (m2 + j) j = 0 := by
            rw [cnt_suf l2 (by omega)]
            have w2 := h2.win j j (by omega) (by omega)
            rw [← e2] at w2
            omega
          have d := cnt_le_e (List.range m2 ++ t1.map (fun x => m2 + x)) (m1 + m2 + i) (e := m2 + j) (f := mid) (by omega)
          omega
        · have k := at_ (mid - (m2 + i)) (by omega)
          have s0 := sp (mid - (m2 + i)) (by omega)
          have y : m2 + i + (mid - (m2 + i)) = mid := by omega
          rw [y] at k
          omega
    omega
set_option maxHeartbeats 4000000
theorem pc_beside {c : Nat} {b1 b2 t1 t2 st : List Nat} (h1 : PcOk [c] b1 t1) (h2 : PcOk [c] b2 t2)
    (hs : StepsOf (List.range b1.length ++ t2.map (fun x => b1.length + x)) st) : PcOk [c] (b1 ++ b2) (laidL (t1 ++ from_ t1.length b2.length) st) := by
  obtain ⟨n1, e1⟩ : ∃ m, m = b1.length := ⟨_, rfl⟩
  obtain ⟨n2, e2⟩ : ∃ m, m = b2.length := ⟨_, rfl⟩
  have l1 : t1.length = 1 + n1 := by have := h1.len; simp at this; omega
  have l2 : t2.length = 1 + n2 := by have := h2.len; simp at this; omega
  rw [← e1] at hs
  rw [← e2, l1]
  have T1 : Turn (t1 ++ from_ (1 + n1) n2) := turn_app h1.turn l1
  have T2 : Turn (List.range n1 ++ t2.map (fun x => n1 + x)) := turn_pre h2.turn
  have L1 : (t1 ++ from_ (1 + n1) n2).length = 1 + n1 + n2 := by rw [List.length_append, from_len]; omega
  have L2 : (List.range n1 ++ t2.map (fun x => n1 + x)).length = 1 + n1 + n2 := by simp; omega
  obtain ⟨TL, LL⟩ := laid_turn T1 (by rw [L1, L2]) hs
  have mn := fun (p e : Nat) (hp : p ≤ 1 + n1 + n2) (he : e ≤ 1 + n1 + n2) => laid_min (b := p) (e := e) T1 T2 (by rw [L1, L2]) hs (by rw [L1]; exact hp) (by rw [L1]; exact he)
  rw [L1] at mn LL
  have lb : (b1 ++ b2).length = n1 + n2 := by rw [List.length_append]; omega
  refine ⟨TL, by rw [LL, lb]; simp; omega, fun s hsl => ?_, fun i j hij hj => ?_⟩
  · rw [LL] at hsl
    show s ≤ _ + 1
    by_cases q : s = 0
    · omega
    · have z : cnt (laidL (t1 ++ from_ (1 + n1) n2) st) s (s - 1) = 0 := by
        by_cases w : 1 + n1 ≤ s
        · have := (mn s (s - 1) (by omega) (by omega)).1 s (by omega)
          simp only at this
          have c1 : cnt (t1 ++ from_ (1 + n1) n2) s s = 0 := by rw [cnt_suf_past l1 w (by omega)]; omega
          have c2 : cnt (List.range n1 ++ t2.map (fun x => n1 + x)) s (s - 1) = 0 := by
            refine cnt_low fun r hr hsr => ?_
            rw [get_pre_hi hr (by omega)]
            have := h2.low (r - n1) (by rw [L2] at hr; omega)
            simp at this
            omega
          omega
        · have := (mn s (s - 1) (by omega) (by omega)).1 (s - 1) (by omega)
          simp only at this
          have c1 : cnt (t1 ++ from_ (1 + n1) n2) s (s - 1) = 0 := by
            refine cnt_low fun r hr hsr => ?_
            by_cases y : r < 1 + n1
            · rw [List.getElem_append_left (by omega)]
              have := h1.low r (by omega)
              simp at this
              omega
            · rw [get_app_from l1 hr (by omega)]; omega
          have c2 : cnt (List.range n1 ++ t2.map (fun x => n1 + x)) (s - 1) (s - 1) = 0 := by rw [cnt_pre_small _ (by omega)]; omega
          omega
      have := low_of z (by rw [LL]; omega)
      omega
  · rw [lb] at hj
    show cnt _ (1 + i) j + _ = _
    obtain ⟨lo, mid, hm, em⟩ := mn (1 + i) j (by omega) (by omega)
    simp only at lo em
    by_cases A : j ≤ n1
    · have w := h1.win i j hij (by omega)
      have w' : cnt t1 (1 + i) j + lcs [c] ((b1.take j).drop i) = j - i := w
      have tk : (b1 ++ b2).take j = b1.take j := List.take_append_of_le_length (by omega)
      have u := lo j (by omega)
      have f0 : cnt (t1 ++ from_ (1 + n1) n2) (1 + i) j = cnt t1 (1 + i) j := cnt_suf l1 (by omega)
      have g0 : cnt (List.range n1 ++ t2.map (fun x => n1 + x)) j j = 0 := by rw [cnt_pre_small _ A]; omega
      have g1 : cnt (List.range n1 ++ t2.map (fun x => n1 + x)) mid j = j - mid := cnt_pre_small _ A
      have d : cnt (t1 ++ from_ (1 + n1) n2) (1 + i) j ≤ cnt (t1 ++ from_ (1 + n1) n2) (1 + i) mid + (j - mid) := by
        by_cases z : mid ≤ j
        · have := (cnt_e T1 (1 + i) mid (j - mid) (by rw [L1]; omega)).2
          have y : mid + (j - mid) = j := by omega
          rw [y] at this
          exact this
        · have := cnt_le_e (t1 ++ from_ (1 + n1) n2) (1 + i) (e := j) (f := mid) (by omega)
          omega
      rw [tk]
      omega
    · by_cases B : n1 ≤ i
      · have w := h2.win (i - n1) (j - n1) (by omega) (by omega)
        have w' : cnt t2 (1 + (i - n1)) (j - n1) + lcs [c] ((b2.take (j - n1)).drop (i - n1)) = j - n1 - (i - n1) := w
        have tk : ((b1 ++ b2).take j).drop i = (b2.take (j - n1)).drop (i - n1) := by
          rw [List.take_append, List.drop_append, ← e1]
          have z1 : (b1.take j).drop i = [] := List.drop_eq_nil_of_le (by simp; omega)
          have z2 : (b1.take j).length = n1 := by simp; omega
          rw [z1, z2]
          rfl
        have u := lo (1 + i) (by omega)
        have f0 : cnt (t1 ++ from_ (1 + n1) n2) (1 + i) (1 + i) = 0 := by rw [cnt_suf_past l1 (by omega) (by omega)]; omega
        have f1 : cnt (t1 ++ from_ (1 + n1) n2) (1 + i) mid = mid - (1 + i) := cnt_suf_past l1 (by omega) (by omega)
        have g0 : cnt (List.range n1 ++ t2.map (fun x => n1 + x)) (1 + i) j = cnt t2 (1 + (i - n1)) (j - n1) := by
          have y : 1 + i = n1 + (1 + (i - n1)) := by omega
          rw [y, cnt_pre]
        have d : cnt (List.range n1 ++ t2.map (fun x => n1 + x)) (1 + i) j ≤ cnt (List.range n1 ++ t2.map (fun x => n1 + x)) mid j + (mid - (1 + i)) := by
          by_cases z : mid ≤ 1 + i
          · have := (cnt_b (List.range n1 ++ t2.map (fun x => n1 + x)) j mid (1 + i - mid)).1
            have y : mid + (1 + i - mid) = 1 + i := by omega
            rw [y] at this
            omega
          · have := (cnt_b (List.range n1 ++ t2.map (fun x => n1 + x)) j (1 + i) (mid - (1 + i))).2
            have y : 1 + i + (mid - (1 + i)) = mid := by omega
            rw [y] at this
            exact this
        rw [tk]
        omega
      · have w1 : cnt t1 (1 + i) n1 + lcs [c] ((b1.take n1).drop i) = n1 - i := h1.win i n1 (by omega) (by omega)
        have w2 : cnt t2 (1 + 0) (j - n1) + lcs [c] ((b2.take (j - n1)).drop 0) = j - n1 - 0 := h2.win 0 (j - n1) (by omega) (by omega)
        have tk : ((b1 ++ b2).take j).drop i = (b1.take n1).drop i ++ (b2.take (j - n1)).drop 0 := by
          rw [List.take_append, List.drop_append, ← e1]
          have z1 : b1.take j = b1.take n1 := by rw [List.take_of_length_le (by omega), List.take_of_length_le (by omega)]
          have z2 : i - (b1.take j).length = 0 := by simp; omega
          rw [z2, z1]
        have mx : lcs [c] ((b1.take n1).drop i ++ (b2.take (j - n1)).drop 0) = max (lcs [c] ((b1.take n1).drop i)) (lcs [c] ((b2.take (j - n1)).drop 0)) := by
          generalize (b1.take n1).drop i = p1
          generalize (b2.take (j - n1)).drop 0 = p2
          rw [lcs_one, lcs_one, lcs_one]
          simp only [List.mem_append]
          by_cases p : c ∈ p1 <;> by_cases r : c ∈ p2 <;> simp [p, r]
        have u1 := lo n1 (by omega)
        have u2 := lo (n1 + 1) (by omega)
        have f1 : cnt (t1 ++ from_ (1 + n1) n2) (1 + i) n1 = cnt t1 (1 + i) n1 := cnt_suf l1 (by omega)
        have f2 : cnt (t1 ++ from_ (1 + n1) n2) (1 + i) (n1 + 1) = n1 - i := by rw [cnt_suf_hi h1.turn l1 (by omega) (by omega) (by omega)]; omega
        have g1 : cnt (List.range n1 ++ t2.map (fun x => n1 + x)) n1 j = j - n1 := by rw [cnt_pre_lo h2.turn (Nat.le_refl _) (by omega) (by omega)]; omega
        have g2 : cnt (List.range n1 ++ t2.map (fun x => n1 + x)) (n1 + 1) j = cnt t2 (1 + 0) (j - n1) := by rw [cnt_pre]
        rw [tk, mx]
        by_cases z : mid ≤ n1
        · have d := (cnt_e T1 (1 + i) mid (n1 - mid) (by rw [L1]; omega)).2
          have y : mid + (n1 - mid) = n1 := by omega
          rw [y] at d
          have g3 : cnt (List.range n1 ++ t2.map (fun x => n1 + x)) mid j = (n1 - mid) + (j - n1) := cnt_pre_lo h2.turn z (by omega) (by omega)
          omega
        · have f3 : cnt (t1 ++ from_ (1 + n1) n2) (1 + i) mid = (1 + n1 - (1 + i)) + (mid - (1 + n1)) := cnt_suf_hi h1.turn l1 (by omega) (by omega) (by omega)
          have d := (cnt_b (List.range n1 ++ t2.map (fun x => n1 + x)) j (n1 + 1) (mid - (n1 + 1))).2
          have y : n1 + 1 + (mid - (n1 + 1)) = mid := by omega
          rw [y] at d
          omega
end PtM
end
section
namespace PtM
def cntL (l : List Nat) (e : Nat) : Nat := l.countP (fun x => decide (x < e))
def mix : List Nat → List Nat → List Nat
  | [], ys => ys
  | x :: xs, ys => ys.takeWhile (fun y => decide (y < x)) ++ x :: mix xs (ys.dropWhile (fun y => decide (y < x)))
def Asc (l : List Nat) : Prop := l.Pairwise (· ≤ ·)
theorem mix_perm : ∀ xs ys : List Nat, (mix xs ys).Perm (xs ++ ys)
  | [], ys => .refl _
  | x :: xs, ys => by
    unfold mix
    have ih := mix_perm xs (ys.dropWhile (fun y => decide (y < x)))
    have e : ys = ys.takeWhile (fun y => decide (y < x)) ++ ys.dropWhile (fun y => decide (y < x)) := List.takeWhile_append_dropWhile.symm
    refine (List.perm_middle).trans ?_
    refine List.Perm.cons x ?_
    refine (ih.append_left _).trans ?_
    rw [← List.append_assoc]
    show List.Perm _ (xs ++ ys)
    conv => rhs; rw [e]
    rw [← List.append_assoc]
    exact List.Perm.append_right _ List.perm_append_comm
theorem mix_mem {xs ys : List Nat} {z : Nat} (h : z ∈ mix xs ys) : z ∈ xs ∨ z ∈ ys := List.mem_append.mp ((mix_perm xs ys).subset h)
theorem mix_asc : ∀ xs ys : List Nat, Asc xs → Asc ys → Asc (mix xs ys)
  | [], ys, _, h => h
  | x :: xs, ys, hx, hy => by
    have e : ys = ys.takeWhile (fun y => decide (y < x)) ++ ys.dropWhile (fun y => decide (y < x)) := List.takeWhile_append_dropWhile.symm
    obtain ⟨h1, h2⟩ := List.pairwise_cons.mp hx
    have hy' := hy
    rw [e] at hy'
    obtain ⟨a1, a2, a3⟩ := List.pairwise_append.mp hy'
    have low : ∀ y ∈ ys.takeWhile (fun y => decide (y < x)), y < x := fun y hm => by
      have := List.all_takeWhile (l := ys) (p := fun y => decide (y < x))
      rw [List.all_eq_true] at this
      simpa using this y hm
    have high : ∀ y ∈ ys.dropWhile (fun y => decide (y < x)), x ≤ y := fun y hm => by
      cases q : ys.dropWhile (fun y => decide (y < x)) with
      | nil => rw [q] at hm; simp at hm
      | cons z r =>
        have hz : x ≤ z := by
          have := List.head?_dropWhile_not (fun y => decide (y < x)) ys
          rw [q] at this
          simp at this
          exact this
        rw [q] at hm a2
        rcases List.mem_cons.mp hm with rfl | hm
        · exact hz
        · have := (List.pairwise_cons.mp a2).1 y hm
          omega
    unfold mix
    refine List.pairwise_append.mpr ⟨a1, List.pairwise_cons.mpr ⟨fun z hz => ?_, mix_asc xs _ h2 a2⟩, fun y hy z hz => ?_⟩
    · rcases mix_mem hz with hz | hz
      · exact h1 z hz
      · exact high z hz
    · have := low y hy
      rcases List.mem_cons.mp hz with rfl | hz
      · omega
      · rcases mix_mem hz with hz | hz
        · have := h1 z hz; omega
        · have := high z hz; omega
def up : List (List Nat) → List (List Nat)
  | [] => []
  | [b] => [b]
  | a :: b :: r => mix a b :: up r
def cntB (bs : List (List Nat)) (e : Nat) : Nat := (bs.map (fun b => cntL b e)).sum
theorem cntB_up (e : Nat) : ∀ bs : List (List Nat), cntB (up bs) e = cntB bs e
  | [] => rfl
  | [b] => rfl
  | a :: b :: r => by
    have ih := cntB_up e r
    have h : cntL (mix a b) e = cntL a e + cntL b e := by
      unfold cntL
      rw [(mix_perm a b).countP_eq, List.countP_append]
    show cntL (mix a b) e + cntB (up r) e = cntL a e + (cntL b e + cntB r e)
    rw [h, ih]
    omega
theorem up_drop : ∀ (bs : List (List Nat)) (j : Nat), (up bs).drop j = up (bs.drop (2 * j))
  | bs, 0 => by simp
  | [], j + 1 => by simp [up]
  | [b], j + 1 => by
    have : 2 * (j + 1) = (2 * j + 1) + 1 := by omega
    rw [this]
    simp [up]
  | a :: b :: r, j + 1 => by
    have : 2 * (j + 1) = 2 * j + 1 + 1 := by omega
    rw [this]
    show (up r).drop j = _
    rw [up_drop r j]
    rfl
theorem up_len : ∀ bs : List (List Nat), (up bs).length = (bs.length + 1) / 2
  | [] => by simp [up]
  | [b] => by simp [up]
  | a :: b :: r => by
    show (up r).length + 1 = _
    rw [up_len r]
    simp
    omega
theorem up_asc : ∀ bs : List (List Nat), (∀ b ∈ bs, Asc b) → ∀ b ∈ up bs, Asc b
  | [], _, b, hb => by simp [up] at hb
  | [b], h, c, hc => h c hc
  | a :: b :: r, h, c, hc => by
    rcases List.mem_cons.mp hc with rfl | hc
    · exact mix_asc a b (h a (by simp)) (h b (by simp))
    · exact up_asc r (fun d hd => h d (List.mem_cons_of_mem _ (List.mem_cons_of_mem _ hd))) c hc
theorem up_flat (B : Nat) : ∀ bs : List (List Nat), (up bs).flatten.length = bs.flatten.length
  | [] => rfl
  | [b] => rfl
  | a :: b :: r => by
    have := up_flat B r
    have h := (mix_perm a b).length_eq
    simp only [up, List.flatten_cons, List.length_append] at this h ⊢
    omega
structure Chain (ends : List Nat) (fs : List (List (List Nat))) : Prop where
  some_ : 0 < fs.length
  first : fs[0]? = some (ends.map fun x => [x])
  next : ∀ (k : Nat) (bs : List (List Nat)), fs[k]? = some bs → k + 1 < fs.length → 1 < bs.length ∧ fs[k + 1]? = some (up bs)
  last : ∀ (bs : List (List Nat)), fs[fs.length - 1]? = some bs → bs.length ≤ 1
theorem chain_asc {ends : List Nat} {fs : List (List (List Nat))} (c : Chain ends fs) : ∀ (k : Nat) (bs : List (List Nat)), fs[k]? = some bs → ∀ b ∈ bs, Asc b := by
  intro k
  induction k with
  | zero =>
    intro bs h b hb
    rw [c.first] at h
    cases h
    obtain ⟨x, _, rfl⟩ := List.mem_map.mp hb
    exact List.pairwise_singleton _ _
  | succ k ih =>
    intro bs h b hb
    have hk : k + 1 < fs.length := (List.getElem?_eq_some_iff.mp h).1
    have e : fs[k]? = some fs[k] := List.getElem?_eq_getElem (by omega)
    obtain ⟨_, h2⟩ := c.next k _ e hk
    rw [h] at h2
    cases h2
    exact up_asc _ (ih _ e) b hb
theorem cntB_ones (e : Nat) : ∀ l : List Nat, cntB (l.map fun x => [x]) e = cntL l e
  | [] => rfl
  | x :: l => by
    have := cntB_ones e l
    show cntL [x] e + cntB (l.map fun x => [x]) e = cntL (x :: l) e
    rw [this]
    simp [cntL, List.countP_cons]
    omega
theorem cnt_cntB (t : List Nat) (b e : Nat) : cntB ((t.map fun x => [x]).drop b) e = cnt t b e := by
  rw [← List.map_drop, cntB_ones]
  rfl
theorem cntB_step (bs : List (List Nat)) {a : Nat} (h : a < bs.length) (e : Nat) : cntB (bs.drop a) e = cntL (bs.getD a []) e + cntB (bs.drop (a + 1)) e := by
  rw [List.drop_eq_getElem_cons h]
  have : bs.getD a [] = bs[a] := by simp [List.getD, h]
  rw [this]
  rfl
theorem cntB_half (bs : List (List Nat)) {a : Nat} (h : a % 2 = 0) (e : Nat) : cntB ((up bs).drop (a / 2)) e = cntB (bs.drop a) e := by
  rw [up_drop, cntB_up]
  congr 2
  omega
theorem cntB_past {bs : List (List Nat)} {a : Nat} (h : bs.length ≤ a) (e : Nat) : cntB (bs.drop a) e = 0 := by
  rw [List.drop_eq_nil_of_le h]; rfl
theorem cntL_at {l : List Nat} {e k : Nat} (hk : k ≤ l.length) (h1 : ∀ i, i < k → l.getD i 0 < e) (h2 : ∀ i, k ≤ i → i < l.length → e ≤ l.getD i 0) : cntL l e = k := by
  unfold cntL
  conv => lhs; rw [← List.take_append_drop k l]
  rw [List.countP_append]
  have a : (l.take k).countP (fun x => decide (x < e)) = k := by
    rw [List.countP_eq_length.mpr]
    · simp; omega
    · intro x hx
      obtain ⟨i, hi, rfl⟩ := List.getElem_of_mem hx
      rw [List.getElem_take]
      simp at hi
      have := h1 i (by omega)
      rw [List.getD_eq_getElem?_getD, List.getElem?_eq_getElem (show i < l.length by omega)] at this
      simpa using this
  have b : (l.drop k).countP (fun x => decide (x < e)) = 0 := by
    rw [List.countP_eq_zero]
    intro x hx
    obtain ⟨i, hi, rfl⟩ := List.getElem_of_mem hx
    rw [List.getElem_drop]
    simp at hi
    have := h2 (k + i) (by omega) (by omega)
    rw [List.getD_eq_getElem?_getD, List.getElem?_eq_getElem (show k + i < l.length by omega)] at this
    simp at this ⊢
    exact this
  omega
theorem asc_at {l : List Nat} (h : Asc l) {i j : Nat} (hij : i ≤ j) (hj : j < l.length) : l.getD i 0 ≤ l.getD j 0 := by
  have hi : i < l.length := by omega
  simp only [List.getD_eq_getElem?_getD, List.getElem?_eq_getElem hi, List.getElem?_eq_getElem hj, Option.getD_some]
  by_cases e : i = j
  · subst e; omega
  · exact List.pairwise_iff_getElem.mp h i j hi hj (by omega)
end PtM
end
section
set_option maxRecDepth 100000
set_option maxHeartbeats 4000000
namespace Pt
open PySem PySem.Spec PyProof.Rows L2
abbrev Srt (l : List I3) : Prop := SrtO.Srtd LtL l
theorem ltL_iff {p q : I3} : LtL p q = true ↔ p.1 < q.1 ∨ (p.1 = q.1 ∧ (p.2.1 < q.2.1 ∨ (p.2.1 = q.2.1 ∧ p.2.2 < q.2.2))) := Pt3.lex3_iff
theorem ltL_no {p q : I3} : LtL p q = false ↔ ¬ (p.1 < q.1 ∨ (p.1 = q.1 ∧ (p.2.1 < q.2.1 ∨ (p.2.1 = q.2.1 ∧ p.2.2 < q.2.2)))) := Pt3.lex3_no
theorem srt_uniq {l m : List I3} (hl : Srt l) (hm : Srt m) (h : l.Perm m) : l = m := by
  refine List.Perm.eq_of_pairwise (fun a b _ _ h1 h2 => ?_) hl hm h
  have h1 := ltL_no.mp h1
  have h2 := ltL_no.mp h2
  obtain ⟨a1, a2, a3⟩ := a
  obtain ⟨b1, b2, b3⟩ := b
  simp only [Prod.mk.injEq] at h1 h2 ⊢
  omega
abbrev Spn := Int × Int
def span (p : I3) : Spn := p.2
abbrev spans (l : List I3) : List Spn := l.map span
def genRow (b : Nat) (row : List Int) (m : Int) (j : Nat) : List I3 := (List.range j).filterMap fun k => if 0 < k ∧ row.getD k 0 ≤ m then some (row.getD k 0, (b : Int), (b : Int) + k) else none
def genT (C : List (List Int)) (m : Int) (i : Nat) : List I3 := (List.range i).flatMap fun b => genRow b (C.getD b []) m (C.getD b []).length
theorem genRow_succ (b : Nat) (row : List Int) (m : Int) (j : Nat) : genRow b row m (j + 1) = genRow b row m j ++ (if 0 < j ∧ row.getD j 0 ≤ m then [(row.getD j 0, (b : Int), (b : Int) + j)] else []) := by
  unfold genRow
  rw [List.range_succ, List.filterMap_append]
  congr 1
  by_cases c : 0 < j ∧ row.getD j 0 ≤ m
  · rw [if_pos c, List.filterMap_cons, if_pos c]
    rfl
  · rw [if_neg c, List.filterMap_cons, if_neg c]
    rfl
theorem genT_succ (C : List (List Int)) (m : Int) (i : Nat) : genT C m (i + 1) = genT C m i ++ genRow i (C.getD i []) m (C.getD i []).length := by
  unfold genT
  rw [List.range_succ, List.flatMap_append]
  simp
theorem genRow_mem {b : Nat} {row : List Int} {m : Int} {j : Nat} {p : I3} (h : p ∈ genRow b row m j) : ∃ k, 0 < k ∧ k < j ∧ row.getD k 0 ≤ m ∧ p = (row.getD k 0, (b : Int), (b : Int) + k) := by
  unfold genRow at h
  obtain ⟨k, hk, e⟩ := List.mem_filterMap.mp h
  by_cases c : 0 < k ∧ row.getD k 0 ≤ m
  · rw [if_pos c] at e
    exact ⟨k, c.1, List.mem_range.mp hk, c.2, (Option.some.inj e).symm⟩
  · rw [if_neg c] at e
    cases e
theorem genT_mem {C : List (List Int)} {m : Int} {i : Nat} {p : I3} (h : p ∈ genT C m i) : ∃ b k, b < i ∧ 0 < k ∧ k < (C.getD b []).length ∧ (C.getD b []).getD k 0 ≤ m ∧ p = ((C.getD b []).getD k 0, (b : Int), (b : Int) + k) := by
  unfold genT at h
  obtain ⟨b, hb, hp⟩ := List.mem_flatMap.mp h
  obtain ⟨k, h1, h2, h3, e⟩ := genRow_mem hp
  exact ⟨b, k, List.mem_range.mp hb, h1, h2, h3, e⟩
theorem genRow_len (b : Nat) (row : List Int) (m : Int) (j : Nat) : (genRow b row m j).length ≤ j := by
  unfold genRow
  exact Nat.le_trans (List.length_filterMap_le _ _) (by simp)
theorem genT_len {C : List (List Int)} {m : Int} {B : Nat} (h : ∀ b, (C.getD b []).length ≤ B) : ∀ i, (genT C m i).length ≤ i * B
  | 0 => by simp [genT]
  | i + 1 => by
    rw [genT_succ, List.length_append, Nat.succ_mul]
    have := genT_len (m := m) h i
    have := genRow_len i (C.getD i []) m (C.getD i []).length
    have := h i
    omega
theorem genT_nodup (C : List (List Int)) (m : Int) (i : Nat) : (spans (genT C m i)).Nodup := by
  unfold spans List.Nodup
  rw [List.pairwise_map]
  unfold genT
  rw [List.pairwise_flatMap]
  refine ⟨fun b _ => ?_, ?_⟩
  · unfold genRow
    rw [List.pairwise_filterMap]
    refine List.Pairwise.imp ?_ (List.pairwise_lt_range (n := (C.getD b []).length))
    intro k l hkl p hp q hq
    split at hp
    · split at hq
      · cases hp
        cases hq
        intro e
        have := congrArg Prod.snd e
        simp only [span] at this
        omega
      · cases hq
    · cases hp
  · refine List.Pairwise.imp ?_ (List.pairwise_lt_range (n := i))
    intro b c hbc x hx y hy e
    obtain ⟨_, _, _, _, e1⟩ := genRow_mem hx
    obtain ⟨_, _, _, _, e2⟩ := genRow_mem hy
    subst e1 e2
    have := congrArg Prod.fst e
    simp only [span] at this
    omega
def Near (C : List (List Int)) (m : Int) (rows : List I3) : Prop := Srt rows ∧ rows.Perm (genT C m C.length)
theorem Near.uniq {C : List (List Int)} {m : Int} {l k : List I3} (h : Near C m l) (h' : Near C m k) : l = k := srt_uniq h.1 h'.1 (h.2.trans h'.2.symm)
structure NearOk (l : List I3) : Prop where
  srt : Srt l
  nd : (spans l).Nodup
  ok : ∀ p ∈ l, 0 ≤ p.1 ∧ p.1 ≤ 48 ∧ 0 ≤ p.2.1 ∧ p.2.1 < p.2.2 ∧ p.2.2 ≤ 24
  few : l.length ≤ 1000
noncomputable def costTab (a b : List Nat) : List (List Int) := (List.range (b.length + 1)).map fun i => (List.range (b.length + 1 - i)).map fun k => PtM.cost 46 a ((b.drop i).take k)
theorem costTab_len (a b : List Nat) : (costTab a b).length = b.length + 1 := by simp [costTab]
theorem costTab_row (a b : List Nat) {i : Nat} (h : i < b.length + 1) : (costTab a b).getD i [] = (List.range (b.length + 1 - i)).map fun k => PtM.cost 46 a ((b.drop i).take k) := by
  simp [costTab, List.getD, h]
theorem costTab_rlen (a b : List Nat) (i : Nat) : ((costTab a b).getD i []).length = b.length + 1 - i := by
  by_cases h : i < b.length + 1
  · rw [costTab_row a b h]; simp
  · have : (costTab a b).getD i [] = [] := by
      simp only [List.getD_eq_getElem?_getD]
      rw [List.getElem?_eq_none (by rw [costTab_len]; omega)]
      rfl
    rw [this]; simp; omega
theorem costTab_at (a b : List Nat) {i k : Nat} (h : i + k < b.length + 1) : ((costTab a b).getD i []).getD k 0 = PtM.cost 46 a ((b.drop i).take k) := by
  rw [costTab_row a b (by omega)]
  have : k < b.length + 1 - i := by omega
  simp [List.getD, this]
theorem near_ok {a b : List Nat} {m : Int} {l : List I3} (hb : b.length ≤ 24) (hm : m ≤ 48) (h : Near (costTab a b) m l) : NearOk l := by
  refine ⟨h.1, ((h.2.map span).nodup_iff).mpr (genT_nodup _ _ _), fun p hp => ?_, ?_⟩
  · obtain ⟨i, k, h1, h2, h3, h4, e⟩ := genT_mem (h.2.mem_iff.mp hp)
    rw [costTab_rlen] at h3
    rw [costTab_len] at h1
    subst e
    have := costTab_at a b (i := i) (k := k) (by omega)
    simp only [this] at h4 ⊢
    have := PtM.cost_nonneg 46 a ((b.drop i).take k)
    omega
  · rw [h.2.length_eq]
    have := genT_len (C := costTab a b) (m := m) (B := 25) (fun i => by rw [costTab_rlen]; omega) (costTab a b).length
    rw [costTab_len] at this ⊢
    have : (b.length + 1) * 25 ≤ 25 * 25 := Nat.mul_le_mul_right _ (by omega)
    omega
def cameL (A B : List I3) : List I3 := B.filter fun p => !(spans A).contains (span p)
def movedAt (A : List I3) (p : I3) (k : Nat) : Option (List Int) :=
  let j := (spans A).idxOf (span p)
  if span p ∈ spans A then (if (A.getD j default).1 = p.1 ∧ j = k then none else some [p.2.1, p.2.2, (A.getD j default).1, p.1, (j : Int), (k : Int)]) else none
def movedL (A B : List I3) (n : Nat) : List (List Int) := (List.range n).filterMap fun k => movedAt A (B.getD k default) k
theorem movedL_succ (A B : List I3) (n : Nat) : movedL A B (n + 1) = movedL A B n ++ (movedAt A (B.getD n default) n).toList := by
  unfold movedL
  rw [List.range_succ, List.filterMap_append]
  congr 1
theorem movedL_len (A B : List I3) (n : Nat) : (movedL A B n).length ≤ n := by
  unfold movedL
  exact Nat.le_trans (List.length_filterMap_le _ _) (by simp)
end Pt
end
section
set_option maxRecDepth 100000
set_option maxHeartbeats 4000000
namespace Pt
open PySem PySem.Spec PyProof.Rows L2
theorem iteDT {c A B : Prop} [Decidable c] (h : c) (a : A) : if decide c = true then A else B := by rw [if_pos (decide_eq_true h)]; exact a
theorem iteDF {c A B : Prop} [Decidable c] (h : ¬ c) (b : B) : if decide c = true then A else B := by rw [if_neg (by rw [decide_eq_false h]; exact Bool.false_ne_true)]; exact b
theorem iteNT {c A B : Prop} [Decidable c] (h : ¬ c) (a : A) : if (!decide c) = true then A else B := by rw [if_pos (by rw [decide_eq_false h]; rfl)]; exact a
theorem iteNF {c A B : Prop} [Decidable c] (h : c) (b : B) : if (!decide c) = true then A else B := by rw [if_neg (by rw [decide_eq_true h]; exact Bool.false_ne_true)]; exact b
theorem vcast {Q : VK} {a b : V} {H : Hp} (e : a = b) (h : Q b H) : Q a H := by rw [e]; exact h
theorem same_upd {H H' : Hp} (s : Same H H') {p : Addr} {o : HO} (h : H p = none) : Same H (upd H' p o) := fun b u e => by
  rw [upd_ne (ne_of_none e h)]
  exact s b u e
theorem same_new {H : Hp} {p : Addr} {o : HO} (h : H p = none) : Same H (upd H p o) := same_upd (Same.refl H) h
theorem big (n : Nat) (h : n ≤ 100000) : n ≤ sizeLine := Nat.le_trans h (by decide)
theorem bigS (n : Nat) (h : n < 100000) : n < sizeLine := Nat.lt_of_lt_of_le h (by decide)
abbrev Ret (P : V → Hp → Prop) (H : Hp) (Q : VK) : Prop := ∀ v H', Same H H' → P v H' → Q v H'
def nV (n : Nat) : V := .int (n : Int)
abbrev IL (l : List Nat) : List V := l.map nV
theorem IL_get {l : List Nat} {i : Nat} (h : i < l.length) : (IL l)[i]? = some (nV (l.getD i 0)) := by
  simp [IL, List.getElem?_map, List.getD, h]
theorem IL_at {l : List Nat} {i : Nat} {x : V} (h : (IL l)[i]? = some x) : i < l.length ∧ x = nV (l.getD i 0) := by
  have hi : i < l.length := by
    have := (List.getElem?_eq_some_iff.mp h).1
    simpa using this
  rw [IL_get hi] at h
  exact ⟨hi, (Option.some.inj h).symm⟩
theorem IL_ints (l : List Nat) : IL l = (l.map (fun n : Nat => (n : Int))).map V.int := by simp [IL, nV, Function.comp_def]
theorem op_fdivNat {X : Cx} : OpR X (binaryOp .FloorDiv) (fun x y H Q => ∃ n d : Nat, x = nV n ∧ y = nV d ∧ (0 < d ∧ d < 1073741824) ∧ Q (nV (n / d)) H) := by
  intro pins s σ H x y v u Q I rx ry h
  obtain ⟨n, d, rfl, rfl, hd, q⟩ := h
  refine op_fdiv pins s σ H _ _ v u Q I rx ry ⟨n, d, rfl, rfl, ⟨by omega, by omega⟩, ?_⟩
  have e : ((n : Int) / (d : Int)) = ((n / d : Nat) : Int) := by simp
  show Q (.int ((n : Int) / (d : Int))) H
  rw [e]
  exact q
theorem op_modNat {X : Cx} : OpR X (binaryOp .Mod) (fun x y H Q => ∃ n d : Nat, x = nV n ∧ y = nV d ∧ 0 < d ∧ Q (nV (n % d)) H) := by
  intro pins s σ H x y v u Q I rx ry h
  obtain ⟨n, d, rfl, rfl, hd, q⟩ := h
  refine op_mod pins s σ H _ _ v u Q I rx ry ⟨n, d, rfl, rfl, by omega, ?_⟩
  have e : ((n : Int) % (d : Int)) = ((n % d : Nat) : Int) := by simp
  show Q (.int ((n : Int) % (d : Int))) H
  rw [e]
  exact q
section
variable {J : It} {n : Nat} {G : Hp → Prop} {Y : Nat → Hp → V → Hp → Prop} {g : TG} {te : TE} {tt : TT} {vs : List Nat} {σ : L2.St} {H1 : Hp} {D : Addr} {Qd : Hp → Prop}
theorem lcP (w : Walk J n G Y) (hn : n ≤ 100000) (hD : H1 D = none) (P : Nat → V → Hp → Prop) (m1 : ∀ i y H H', Same H H' → P i y H → P i y H') (m2 : ∀ i y H acc o, H D = some (.lst acc) → P i y H → P i y (upd H D o)) (hG : ∀ H, Same H1 H → G H)
    (hs : ∀ i x H H' (Q : VK), i < n → Same H1 H → (∃ acc, H D = some (.lst acc)) → Y i H x H' → (∀ y H4, Same H H4 → P i y H4 → Q y H4) → g x (wipe σ vs) H' fun σ2 H2 => wipe σ2 vs = wipe σ vs ∧ te σ2 H2 Q)
    (hd : ∀ H acc, Same H1 H → H D = some (.lst acc) → acc.length = n → (∀ i y, acc[i]? = some y → P i y H) → Qd H) :
    ∃ W : Nat → Nat → Hp → Prop, (∃ m, W 0 m (upd H1 D (.lst []))) ∧ ∀ i m H, W i m H →
      (J.stop i H ∧ Qd H) ∨ (J.go i H ∧ ∃ Nx : Hp → Prop, (∀ H', Nx H' → ∃ m', m' < m ∧ W (i + 1) m' H') ∧ ∀ x H', J.yld i H x H' → g x (wipe σ vs) H' fun σ2 H2 => wipe σ2 vs = wipe σ vs ∧ tYes σ2 H2 fun b H3 =>
        if b = true then te σ2 H3 fun y H4 => ∃ acc, H4 D = some (.lst acc) ∧ acc.length < sizeLine ∧ Nx (upd H4 D (.lst (acc ++ [y]))) else Nx H3) := by
  refine lc_it w (tt := tYes) (fun i H => Same H1 H ∧ ∃ acc, H D = some (.lst acc) ∧ acc.length = i ∧ ∀ j y, acc[j]? = some y → P j y H) ⟨same_new hD, [], upd_same, rfl, fun j y h => by simp at h⟩ (fun i H _ p => hG H p.1) ?_ ?_
  · intro i x H H' hi ⟨s, acc, ha, hl, hp⟩ y
    refine hs i x H H' _ hi s ⟨acc, ha⟩ y fun y H4 s4 py => ?_
    refine ⟨acc, s4 D _ ha, bigS _ (by omega), same_upd (s.trans s4) hD, acc ++ [y], upd_same, by simp [hl], fun j z hz => ?_⟩
    refine m2 _ _ _ _ _ (s4 D _ ha) ?_
    by_cases c : j < acc.length
    · rw [List.getElem?_append_left c] at hz
      exact m1 _ _ _ _ s4 (hp j z hz)
    · rw [List.getElem?_append_right (by omega)] at hz
      have e : j - acc.length = 0 := by
        have := (List.getElem?_eq_some_iff.mp hz).1
        simp at this
        omega
      rw [e] at hz
      have ez : y = z := by simpa using hz
      have ej : j = i := by omega
      subst ez ej
      exact py
  · intro H ⟨s, acc, ha, hl, hp⟩
    exact hd H acc s ha hl hp
theorem lcV (w : Walk J n G Y) (hn : n ≤ 100000) (hD : H1 D = none) (f : Nat → V) (hG : ∀ H, Same H1 H → G H)
    (hs : ∀ i x H H' (Q : VK), i < n → Same H1 H → Y i H x H' → (∀ H4, Same H H4 → Q (f i) H4) → g x (wipe σ vs) H' fun σ2 H2 => wipe σ2 vs = wipe σ vs ∧ te σ2 H2 Q)
    (hd : ∀ H, Same H1 H → H D = some (.lst ((List.range n).map f)) → Qd H) :
    ∃ W : Nat → Nat → Hp → Prop, (∃ m, W 0 m (upd H1 D (.lst []))) ∧ ∀ i m H, W i m H →
      (J.stop i H ∧ Qd H) ∨ (J.go i H ∧ ∃ Nx : Hp → Prop, (∀ H', Nx H' → ∃ m', m' < m ∧ W (i + 1) m' H') ∧ ∀ x H', J.yld i H x H' → g x (wipe σ vs) H' fun σ2 H2 => wipe σ2 vs = wipe σ vs ∧ tYes σ2 H2 fun b H3 =>
        if b = true then te σ2 H3 fun y H4 => ∃ acc, H4 D = some (.lst acc) ∧ acc.length < sizeLine ∧ Nx (upd H4 D (.lst (acc ++ [y]))) else Nx H3) := by
  refine lcP w hn hD (fun i y _ => y = f i) (fun _ _ _ _ _ h => h) (fun _ _ _ _ _ _ h => h) hG (fun i x H H' Q hi s _ y k => hs i x H H' Q hi s y fun H4 s4 => k _ H4 s4 rfl) fun H acc s ha hl hp => ?_
  refine hd H s ?_
  rw [ha]
  congr 2
  refine List.ext_getElem (by simp [hl]) fun i h1 h2 => ?_
  have := hp i acc[i] (List.getElem?_eq_getElem h1)
  rw [this]
  simp
theorem lcF (w : Walk J n G Y) (hn : n ≤ 100000) (hD : H1 D = none) (c : Nat → Bool) (f : Nat → V) (hG : ∀ H, Same H1 H → G H)
    (hs : ∀ i x H H' (Qt : VK) (Qf : Hp → Prop), i < n → Same H1 H → Y i H x H' → (∀ H4, Same H H4 → c i = true → Qt (f i) H4) → (∀ H4, Same H H4 → c i = false → Qf H4) →
      g x (wipe σ vs) H' fun σ2 H2 => wipe σ2 vs = wipe σ vs ∧ tt σ2 H2 fun b H3 => if b = true then te σ2 H3 Qt else Qf H3)
    (hd : ∀ H, Same H1 H → H D = some (.lst (((List.range n).filter c).map f)) → Qd H) :
    ∃ W : Nat → Nat → Hp → Prop, (∃ m, W 0 m (upd H1 D (.lst []))) ∧ ∀ i m H, W i m H →
      (J.stop i H ∧ Qd H) ∨ (J.go i H ∧ ∃ Nx : Hp → Prop, (∀ H', Nx H' → ∃ m', m' < m ∧ W (i + 1) m' H') ∧ ∀ x H', J.yld i H x H' → g x (wipe σ vs) H' fun σ2 H2 => wipe σ2 vs = wipe σ vs ∧ tt σ2 H2 fun b H3 =>
        if b = true then te σ2 H3 fun y H4 => ∃ acc, H4 D = some (.lst acc) ∧ acc.length < sizeLine ∧ Nx (upd H4 D (.lst (acc ++ [y]))) else Nx H3) := by
  refine lc_it w (tt := tt) (fun i H => Same H1 H ∧ H D = some (.lst (((List.range i).filter c).map f))) ⟨same_new hD, upd_same⟩ (fun i H _ p => hG H p.1) ?_ (fun H p => hd H p.1 p.2)
  intro i x H H' hi ⟨s, ha⟩ y
  have e : List.range (i + 1) = List.range i ++ [i] := List.range_succ
  refine hs i x H H' _ _ hi s y (fun H4 s4 hc => ?_) (fun H4 s4 hc => ?_)
  · refine ⟨_, s4 D _ ha, ?_, same_upd (s.trans s4) hD, ?_⟩
    · refine bigS _ (Nat.lt_of_le_of_lt (m := i) ?_ (by omega))
      rw [List.length_map]
      exact Nat.le_trans (List.length_filter_le _ _) (by simp)
    · rw [upd_same, e, List.filter_append, List.map_append]
      simp [hc]
  · refine ⟨s.trans s4, ?_⟩
    rw [s4 D _ ha, e, List.filter_append, List.map_append]
    simp [hc]
end
theorem pg_tupK {X : Cx} {K : PySem.W.Frag} {es : List Expr} {k : Nat} {t : TGs} {n : Nat} {pos : Pos} (hK : X.K = K) (hc : X.calm = true) (h : PGs X es t)
    (hn : (assignEach es X.env).length = n := by rfl) (hst : (assignEach es X.env).findIdx? (·.1) = none := by rfl) : PG X (.Tuple es k pos) (gTup K n t) := by
  subst hK
  exact pg_tup hc h hn hst
section
variable {X : Cx} {K : PySem.W.Frag}
theorem ix_listK (h : X.K = K) : IxR X (rIxL K) := by subst h; exact ix_list
theorem ix_tupK (h : X.K = K) : IxR X (rIxT K) := by subst h; exact ix_tup
theorem sl_listK (h : X.K = K) : SlR X (rSlL K) := by subst h; exact sl_list
theorem sl_tupK (h : X.K = K) : SlR X (rSlT K) := by subst h; exact sl_tup
theorem call_len_seqK (h : X.K = K) : CallR X (.builtin "len") (fun xs H Q => ∃ p ys, xs = [.ref p] ∧ (SqL K H p ys ∨ SqT K H p ys) ∧ Q (.int ys.length) H) := by subst h; exact call_len_seq
theorem call_isiK (h : X.K = K) : CallR X (.builtin "isinstance") (rIsi K) := by subst h; exact call_isi
end
end Pt
end
section
set_option maxRecDepth 100000
set_option maxHeartbeats 4000000
namespace Pt
open PySem PySem.Spec PyProof.Rows L2
def isLet (c : Nat) : Prop := 97 ≤ c ∧ c ≤ 122
def Plain (l : List Nat) : Prop := l.length ≤ 24 ∧ ∀ c ∈ l, isLet c
def Row (l : List Nat) : Prop := l.length ≤ 48 ∧ ∀ c ∈ l, isLet c ∨ c = 46
theorem letters_cps : ("abcdefghijklmnopqrstuvwxyz" : Str).cps.toList = (List.range 26).map (fun i => 97 + i) := by decide +kernel
theorem let_mem (c : Nat) : c ∈ ("abcdefghijklmnopqrstuvwxyz" : Str).cps.toList ↔ isLet c := by
  rw [letters_cps]
  unfold isLet
  simp only [List.mem_map, List.mem_range]
  constructor
  · rintro ⟨i, hi, rfl⟩; omega
  · rintro ⟨h1, h2⟩; exact ⟨c - 97, by omega, by omega⟩
def sp_is_whole : Sp := fun vs H Q _ => ∃ i : Int, vs = [.int i] ∧ Q (.bl true) H
abbrev sc_is_whole_N : List Str := ["thing"]
theorem sc_is_whole : FnScope sc_is_whole_N ["thing"] (defScope s_is_whole) := ⟨rfl, rfl, rfl, by decide +kernel, rfl, by decide +kernel, by decide +kernel⟩
theorem ok_is_whole {P : Program} {w : World} {K : PySem.W.Frag} {mg : Str → Option Value} {base : Heap} (T : Tx K mg) : Fn P w K mg base "is_whole" ["thing"] (1) sp_is_whole := by
  obtain ⟨fd, F⟩ := T.D_is_whole
  refine ⟨_, fd, T.g_is_whole, F.kp, F.bindsN (fun _ _ _ _ _ _ us hl => match us, hl with | [_], _ => rfl), F.ok sc_is_whole (fun vs H Q E h => ?_) (fun cdv A outer s H vs Q E hr h => ?_)⟩
  · (obtain ⟨i, rfl, k⟩ := h)
    rfl
  · (obtain ⟨i, rfl, k⟩ := h)
    refine ⟨_, PSs.nox (pss_one (ps_ret (pe_and (pe_callB call_isi (by rfl) T.z_isinstance (by decide +kernel) (pa_cons (pv 0) (pa_cons (pe_bltn (v := .ty "int") (by rfl) T.z_int (by decide +kernel) rfl) pa_nil))) (pe_one (pe_not (pe_callB call_isi (by rfl) T.z_isinstance (by decide +kernel) (pa_cons (pv 0) (pa_cons (pe_bltn (v := .ty "bool") (by rfl) T.z_bool (by decide +kernel) rfl) pa_nil)))))))), ?_⟩
    refine ⟨_, rfl, _, _, _, _, _, rfl, .ty _, .base (.int i), kit_ty (by decide +kernel), _, rfl, iteT ?_⟩
    refine ⟨_, rfl, _, _, _, _, _, rfl, .ty _, .base (.int i), kit_ty (r := false) (by decide +kernel), _, rfl, k⟩
def sp_is_within : Sp := fun vs H Q _ => ∃ i lo hi : Int, vs = [.int i, .int lo, .int hi] ∧ Q (.bl (decide (lo ≤ i) && decide (i ≤ hi))) H
abbrev sc_is_within_N : List Str := ["thing", "low", "high"]
theorem sc_is_within : FnScope sc_is_within_N ["thing", "low", "high"] (defScope s_is_within) := ⟨rfl, rfl, rfl, by decide +kernel, rfl, by decide +kernel, by decide +kernel⟩
theorem ok_is_within {P : Program} {w : World} {K : PySem.W.Frag} {mg : Str → Option Value} {base : Heap} (T : Tx K mg) : Fn P w K mg base "is_within" ["thing", "low", "high"] (2) sp_is_within := by
  obtain ⟨fd, F⟩ := T.D_is_within
  refine ⟨_, fd, T.g_is_within, F.kp, F.bindsN (fun _ _ _ _ _ _ us hl => match us, hl with | [_, _, _], _ => rfl), F.ok sc_is_within (fun vs H Q E h => ?_) (fun cdv A outer s H vs Q E hr h => ?_)⟩
  · (obtain ⟨i, lo, hi, rfl, k⟩ := h)
    rfl
  · (obtain ⟨i, lo, hi, rfl, k⟩ := h)
    refine ⟨_, PSs.nox (pss_one (ps_ret (pe_and (pe_fn (ok_is_whole T) (hr.mono (by decide)) (pa_cons (pv 0) pa_nil)) (pe_one (pe_chain op_le op_le (pv 1) (pv 0) (pv 2)))))), ?_⟩
    refine ⟨_, rfl, i, rfl, _, rfl, iteT ?_⟩
    refine ⟨_, rfl, _, rfl, _, _, rfl, rfl, _, rfl, ?_⟩
    by_cases h : lo ≤ i
    · rw [decide_eq_true h] at k ⊢
      exact iteT ⟨_, rfl, _, _, rfl, rfl, k⟩
    · rw [decide_eq_false h] at k ⊢
      exact iteF k
def sp_is_letter : Sp := fun vs H Q _ => ∃ c : Nat, vs = [.str ⟨#[c]⟩] ∧ ∀ b : Bool, (b = true ↔ isLet c) → Q (.bl b) H
abbrev sc_is_letter_N : List Str := ["thing"]
theorem sc_is_letter : FnScope sc_is_letter_N ["thing"] (defScope s_is_letter) := ⟨rfl, rfl, rfl, by decide +kernel, rfl, by decide +kernel, by decide +kernel⟩
theorem ok_is_letter {P : Program} {w : World} {K : PySem.W.Frag} {mg : Str → Option Value} {base : Heap} (T : Tx K mg) : Fn P w K mg base "is_letter" ["thing"] (1) sp_is_letter := by
  obtain ⟨fd, F⟩ := T.D_is_letter
  refine ⟨_, fd, T.g_is_letter, F.kp, F.bindsN (fun _ _ _ _ _ _ us hl => match us, hl with | [_], _ => rfl), F.ok sc_is_letter (fun vs H Q E h => ?_) (fun cdv A outer s H vs Q E hr h => ?_)⟩
  · (obtain ⟨c, rfl, k⟩ := h)
    rfl
  · (obtain ⟨c, rfl, k⟩ := h)
    refine ⟨_, PSs.nox (pss_one (ps_ret (pe_and (pe_callB call_isi (by rfl) T.z_isinstance (by decide +kernel) (pa_cons (pv 0) (pa_cons (pe_bltn (v := .ty "str") (by rfl) T.z_str (by decide +kernel) rfl) pa_nil))) (pe_and (pe_cmpR op_eq (pe_callB call_len_str (by rfl) T.z_len (by decide +kernel) (pa_cons (pv 0) pa_nil)) pe_int (nomark _)) (pe_one (pe_cmpR op_in_sign (pv 0) (pe_glob (v := .str "abcdefghijklmnopqrstuvwxyz") rfl (Classical.choose_spec T.c_LETTERS) ⟨_, rfl⟩) (by rfl))))))), ?_⟩
    refine ⟨_, rfl, _, _, _, _, _, rfl, .ty _, .base (.str _), kit_ty (by decide +kernel), _, rfl, iteT ?_⟩
    refine ⟨_, rfl, _, rfl, (by show 1 ≤ sizeLine; decide), rfl, _, rfl, iteT ?_⟩
    exact ⟨_, rfl, c, _, rfl, rfl, k _ (by rw [decide_eq_true_iff]; exact let_mem c)⟩
theorem Plain.row {l : List Nat} (h : Plain l) : Row l := ⟨by have := h.1; omega, fun c hc => .inl (h.2 c hc)⟩
theorem sOf_get {l : List Nat} {i c : Nat} (h : (sOf l).cps[i]? = some c) : c ∈ l := by
  have h' : l[i]? = some c := by simpa [sOf] using h
  exact List.mem_of_getElem? h'
theorem dot_eq {c : Nat} : (V.str ⟨#[c]⟩ = V.str ".") ↔ c = 46 := by
  have e : ("." : Str) = ⟨#[46]⟩ := by decide +kernel
  rw [e]
  constructor
  · intro h
    have := congrArg Str.cps (V.str.inj h)
    simpa using this
  · rintro rfl; rfl
def sp_is_row : Sp := fun vs H Q _ => ∃ l : List Nat, vs = [.str (sOf l)] ∧ Row l ∧ Ret (fun v _ => v = .bl true) H Q
abbrev sc_is_row_N : List Str := ["thing", "sign"]
theorem sc_is_row : FnScope sc_is_row_N ["thing"] (defScope s_is_row) := ⟨rfl, rfl, rfl, by decide +kernel, rfl, by decide +kernel, by decide +kernel⟩
theorem ok_is_row {P : Program} {w : World} {K : PySem.W.Frag} {mg : Str → Option Value} {base : Heap} (T : Tx K mg) : Fn P w K mg base "is_row" ["thing"] (1) sp_is_row := by
  obtain ⟨fd, F⟩ := T.D_is_row
  refine ⟨_, fd, T.g_is_row, F.kp, F.bindsN (fun _ _ _ _ _ _ us hl => match us, hl with | [_], _ => rfl), F.ok sc_is_row (fun vs H Q E h => ?_) (fun cdv A outer s H vs Q E hr h => ?_)⟩
  · (obtain ⟨l, rfl, hl, k⟩ := h)
    rfl
  · (obtain ⟨l, rfl, hl, k⟩ := h)
    refine ⟨_, PSs.nox (pss_cons (ps_if (PW.pt (pw_or (pt_not (pt_val (pe_callB call_isi (by rfl) T.z_isinstance (by decide +kernel) (pa_cons (pv 0) (pa_cons (pe_bltn (v := .ty "str") (by rfl) T.z_str (by decide +kernel) rfl) pa_nil))))) (pw_or1 (pt_cmpR op_gt (pe_callB call_len_str (by rfl) T.z_len (by decide +kernel) (pa_cons (pv 0) pa_nil)) (pe_glob (v := .int 48) rfl (Classical.choose_spec T.c_MOST_SIGNS) ⟨_, rfl⟩) (nomark _))))) (pss_one (ps_ret pe_bl)) pss_nil)
      (pss_one (ps_ret (pe_callB (cr_all rfl) (by rfl) T.z_all (by decide +kernel) (pa_cons (pe_lc (own := [("sign", 1)]) rfl sc_is_row.nd (pi_str (pv 0)) (blkOk_by (N := sc_is_row_N) (sc := defScope s_is_row) (by decide +kernel)) (fun _ _ _ _ _ => (pg_name (i := 1) sc_is_row.nd rfl (Or.inl rfl))) (fun _ _ _ _ _ => pts_nil) (fun _ _ _ _ _ => (pe_or (pe_cmpR op_in_sign (pv 1) (pe_glob (v := .str "abcdefghijklmnopqrstuvwxyz") rfl (Classical.choose_spec T.c_LETTERS) ⟨_, rfl⟩) (by rfl)) (pe_one (pe_cmpR op_eq (pv 1) pe_str (nomark _)))))) pa_nil))))), ?_⟩
    have hz : (sOf l).length ≤ sizeLine := by rw [sOf_len]; exact big _ (by have := hl.1; omega)
    refine ⟨_, rfl, _, _, _, _, _, rfl, .ty _, .base (.str _), kit_ty (r := true) (by decide +kernel), _, rfl, iteF ?_⟩
    refine ⟨_, rfl, _, rfl, hz, _, _, rfl, rfl, _, rfl, iteDF (by rw [sOf_len]; have := hl.1; omega) ?_⟩
    refine ⟨_, rfl, sOf l, rfl, fun D hD => lcV (w := walk_str) (by show l.toArray.size ≤ 100000; have := hl.1; simp; omega) hD (fun _ => .bl true) (fun _ _ => trivial) ?_ ?_⟩
    · rintro i x H1 H2 Q' hi s ⟨rfl, c, hc, rfl⟩ k'
      refine ⟨rfl, _, rfl, c, _, rfl, rfl, _, rfl, ?_⟩
      by_cases h : c ∈ ("abcdefghijklmnopqrstuvwxyz" : Str).cps.toList
      · exact iteDT h (k' _ (Same.refl _))
      · refine iteDF h ⟨_, rfl, rfl, ?_⟩
        have : c = 46 := (hl.2 c (sOf_get hc)).resolve_left fun z => h ((let_mem c).mpr z)
        rw [decide_eq_true (dot_eq.mpr this)]
        exact k' _ (Same.refl _)
    · intro H1 s hD1
      refine ⟨D, List.replicate (sOf l).cps.size true, rfl, ?_, ?_⟩
      · have e : (List.range (sOf l).cps.size).map (fun _ => V.bl true) = (List.replicate (sOf l).cps.size true).map V.bl := by rw [List.map_const', List.length_range, List.map_replicate]
        exact SqL.of (by rw [hD1, e])
      · have e : (List.replicate (sOf l).cps.size true).all id = true := by simp
        rw [e]
        exact k _ _ s rfl
theorem dot_notin {l : List Nat} (h : Plain l) : ¬ 46 ∈ (sOf l).cps.toList := by
  rw [sOf_cps]
  intro z
  have := h.2 46 z
  unfold isLet at this
  omega
def sp_is_plain : Sp := fun vs H Q _ => ∃ l : List Nat, vs = [.str (sOf l)] ∧ Plain l ∧ Ret (fun v _ => v = .bl true) H Q
abbrev sc_is_plain_N : List Str := ["thing"]
theorem sc_is_plain : FnScope sc_is_plain_N ["thing"] (defScope s_is_plain) := ⟨rfl, rfl, rfl, by decide +kernel, rfl, by decide +kernel, by decide +kernel⟩
theorem ok_is_plain {P : Program} {w : World} {K : PySem.W.Frag} {mg : Str → Option Value} {base : Heap} (T : Tx K mg) : Fn P w K mg base "is_plain" ["thing"] (2) sp_is_plain := by
  obtain ⟨fd, F⟩ := T.D_is_plain
  refine ⟨_, fd, T.g_is_plain, F.kp, F.bindsN (fun _ _ _ _ _ _ us hl => match us, hl with | [_], _ => rfl), F.ok sc_is_plain (fun vs H Q E h => ?_) (fun cdv A outer s H vs Q E hr h => ?_)⟩
  · (obtain ⟨l, rfl, hl, k⟩ := h)
    rfl
  · (obtain ⟨l, rfl, hl, k⟩ := h)
    refine ⟨_, PSs.nox (pss_one (ps_ret (pe_and (pe_fn (ok_is_row T) (hr.mono (by decide)) (pa_cons (pv 0) pa_nil)) (pe_and (pe_cmpR op_le (pe_callB call_len_str (by rfl) T.z_len (by decide +kernel) (pa_cons (pv 0) pa_nil)) (pe_glob (v := .int 24) rfl (Classical.choose_spec T.c_MOST_LETTERS) ⟨_, rfl⟩) (nomark _)) (pe_one (pe_cmpR op_notIn_sign pe_str (pv 0) (by rfl))))))), ?_⟩
    refine ⟨_, rfl, l, rfl, hl.row, fun v H1 s e => ?_⟩
    subst e
    refine ⟨_, rfl, iteT ?_⟩
    refine ⟨_, rfl, _, rfl, (by rw [sOf_len]; exact big _ (by have := hl.1; omega)), _, _, rfl, rfl, _, rfl, iteDT (by rw [sOf_len]; have := hl.1; omega) ?_⟩
    refine ⟨_, rfl, 46, _, congrArg V.str (by decide +kernel), rfl, ?_⟩
    have e : (!decide (46 ∈ (sOf l).cps.toList)) = true := by rw [decide_eq_false (dot_notin hl)]; rfl
    rw [e]
    exact k _ _ s rfl
def sp_need_row : Sp := fun vs H Q _ => ∃ l : List Nat, vs = [.str (sOf l)] ∧ Row l ∧ Ret (fun v _ => v = .non) H Q
abbrev sc_need_row_N : List Str := ["row"]
theorem sc_need_row : FnScope sc_need_row_N ["row"] (defScope s_need_row) := ⟨rfl, rfl, rfl, by decide +kernel, rfl, by decide +kernel, by decide +kernel⟩
theorem ok_need_row {P : Program} {w : World} {K : PySem.W.Frag} {mg : Str → Option Value} {base : Heap} (T : Tx K mg) : Fn P w K mg base "need_row" ["row"] (2) sp_need_row := by
  obtain ⟨fd, F⟩ := T.D_need_row
  refine ⟨_, fd, T.g_need_row, F.kp, F.bindsN (fun _ _ _ _ _ _ us hl => match us, hl with | [_], _ => rfl), F.ok sc_need_row (fun vs H Q E h => ?_) (fun cdv A outer s H vs Q E hr h => ?_)⟩
  · (obtain ⟨l, rfl, hl, k⟩ := h)
    rfl
  · (obtain ⟨l, rfl, hl, k⟩ := h)
    refine ⟨_, PSs.nox (pss_one (ps_if (pt_not (pt_val (pe_fn (ok_is_row T) (hr.mono (by decide)) (pa_cons (pv 0) pa_nil)))) (pss_one ps_never) pss_nil)), ?_⟩
    refine ⟨_, rfl, l, rfl, hl, fun v H1 s e => ?_⟩
    subst e
    exact ⟨_, rfl, iteF (k _ _ s rfl)⟩
def sp_need_rows : Sp := fun vs H Q _ => ∃ l m : List Nat, vs = [.str (sOf l), .str (sOf m)] ∧ Row l ∧ Row m ∧ Ret (fun v _ => v = .non) H Q
abbrev sc_need_rows_N : List Str := ["side", "top"]
theorem sc_need_rows : FnScope sc_need_rows_N ["side", "top"] (defScope s_need_rows) := ⟨rfl, rfl, rfl, by decide +kernel, rfl, by decide +kernel, by decide +kernel⟩
theorem ok_need_rows {P : Program} {w : World} {K : PySem.W.Frag} {mg : Str → Option Value} {base : Heap} (T : Tx K mg) : Fn P w K mg base "need_rows" ["side", "top"] (3) sp_need_rows := by
  obtain ⟨fd, F⟩ := T.D_need_rows
  refine ⟨_, fd, T.g_need_rows, F.kp, F.bindsN (fun _ _ _ _ _ _ us hl => match us, hl with | [_, _], _ => rfl), F.ok sc_need_rows (fun vs H Q E h => ?_) (fun cdv A outer s H vs Q E hr h => ?_)⟩
  · (obtain ⟨l, m, rfl, hl, hm, k⟩ := h)
    rfl
  · (obtain ⟨l, m, rfl, hl, hm, k⟩ := h)
    refine ⟨_, PSs.nox (pss_cons (ps_expr (pe_fn (ok_need_row T) (hr.mono (by decide)) (pa_cons (pv 0) pa_nil)))
      (pss_one (ps_expr (pe_fn (ok_need_row T) (hr.mono (by decide)) (pa_cons (pv 1) pa_nil))))), ?_⟩
    refine ⟨_, rfl, l, rfl, hl, fun v H1 s e => ?_⟩
    refine ⟨_, rfl, m, rfl, hm, fun v H2 s2 e => ?_⟩
    exact k _ _ (s.trans s2) rfl
def sp_need_plain : Sp := fun vs H Q _ => ∃ l : List Nat, vs = [.str (sOf l)] ∧ Plain l ∧ Ret (fun v _ => v = .non) H Q
abbrev sc_need_plain_N : List Str := ["row"]
theorem sc_need_plain : FnScope sc_need_plain_N ["row"] (defScope s_need_plain) := ⟨rfl, rfl, rfl, by decide +kernel, rfl, by decide +kernel, by decide +kernel⟩
theorem ok_need_plain {P : Program} {w : World} {K : PySem.W.Frag} {mg : Str → Option Value} {base : Heap} (T : Tx K mg) : Fn P w K mg base "need_plain" ["row"] (3) sp_need_plain := by
  obtain ⟨fd, F⟩ := T.D_need_plain
  refine ⟨_, fd, T.g_need_plain, F.kp, F.bindsN (fun _ _ _ _ _ _ us hl => match us, hl with | [_], _ => rfl), F.ok sc_need_plain (fun vs H Q E h => ?_) (fun cdv A outer s H vs Q E hr h => ?_)⟩
  · (obtain ⟨l, rfl, hl, k⟩ := h)
    rfl
  · (obtain ⟨l, rfl, hl, k⟩ := h)
    refine ⟨_, PSs.nox (pss_one (ps_if (pt_not (pt_val (pe_fn (ok_is_plain T) (hr.mono (by decide)) (pa_cons (pv 0) pa_nil)))) (pss_one ps_never) pss_nil)), ?_⟩
    refine ⟨_, rfl, l, rfl, hl, fun v H1 s e => ?_⟩
    subst e
    exact ⟨_, rfl, iteF (k _ _ s rfl)⟩
def sp_need_span : Sp := fun vs H Q _ => ∃ b e m : Int, vs = [.int b, .int e, .int m] ∧ 0 ≤ b ∧ b ≤ e ∧ e ≤ m ∧ Q .non H
abbrev sc_need_span_N : List Str := ["begin", "end", "many"]
theorem sc_need_span : FnScope sc_need_span_N ["begin", "end", "many"] (defScope s_need_span) := ⟨rfl, rfl, rfl, by decide +kernel, rfl, by decide +kernel, by decide +kernel⟩
theorem ok_need_span {P : Program} {w : World} {K : PySem.W.Frag} {mg : Str → Option Value} {base : Heap} (T : Tx K mg) : Fn P w K mg base "need_span" ["begin", "end", "many"] (3) sp_need_span := by
  obtain ⟨fd, F⟩ := T.D_need_span
  refine ⟨_, fd, T.g_need_span, F.kp, F.bindsN (fun _ _ _ _ _ _ us hl => match us, hl with | [_, _, _], _ => rfl), F.ok sc_need_span (fun vs H Q E h => ?_) (fun cdv A outer s H vs Q E hr h => ?_)⟩
  · (obtain ⟨b, e, m, rfl, h0, h1, h2, k⟩ := h)
    rfl
  · (obtain ⟨b, e, m, rfl, h0, h1, h2, k⟩ := h)
    refine ⟨_, PSs.nox (pss_one (ps_if (PW.pt (pw_or (pt_not (pt_val (pe_fn (ok_is_within T) (hr.mono (by decide)) (pa_cons (pv 0) (pa_cons pe_int (pa_cons (pv 2) pa_nil)))))) (pw_or1 (pt_not (pt_val (pe_fn (ok_is_within T) (hr.mono (by decide)) (pa_cons (pv 1) (pa_cons (pv 0) (pa_cons (pv 2) pa_nil))))))))) (pss_one ps_never) pss_nil)), ?_⟩
    refine ⟨_, rfl, _, rfl, b, 0, m, rfl, ?_⟩
    have e1 : (decide ((0 : Int) ≤ b) && decide (b ≤ m)) = true := by rw [decide_eq_true h0, decide_eq_true (by omega)]; rfl
    rw [e1]
    refine ⟨_, rfl, iteF ?_⟩
    refine ⟨_, rfl, _, rfl, _, rfl, e, b, m, rfl, ?_⟩
    have e2 : (decide (b ≤ e) && decide (e ≤ m)) = true := by rw [decide_eq_true h1, decide_eq_true h2]; rfl
    rw [e2]
    exact ⟨_, rfl, iteF k⟩
theorem part_plain_row {l : List Nat} (h : Plain l) : Row (PtM.part 46 l) := by
  refine ⟨by rw [PtM.part_len]; have := h.1; omega, fun c hc => ?_⟩
  unfold PtM.part at hc
  obtain ⟨x, hx, hc⟩ := List.mem_flatMap.mp hc
  rcases List.mem_cons.mp hc with rfl | hc
  · exact .inr rfl
  · have : c = x := by simpa using hc
    subst this
    exact .inl (h.2 _ hx)
theorem dotS : ("." : Str) = sOf [46] := by decide +kernel
theorem sOf_nil : ("" : Str) = sOf [] := by decide +kernel
theorem join0 : ∀ ls : List (List Nat), Txt.join (sOf []) (ls.map sOf) = sOf ls.flatten := by
  intro ls
  show Builtin.Str.glued _ _ = _
  rw [PySem.StrLaws.glued_eq_join]
  induction ls with
  | nil => rfl
  | cons x r ih =>
    cases r with
    | nil => show sOf x = _; simp
    | cons y r =>
      show sOf x ++ sOf [] ++ Str.join (sOf []) ((y :: r).map sOf) = _
      rw [ih, sOf_app, sOf_app]
      simp
theorem sum_len (ls : List (List Nat)) : ((ls.map sOf).map (·.length)).sum = ls.flatten.length := by
  induction ls with
  | nil => rfl
  | cons x r ih =>
    simp only [List.map_cons, List.sum_cons, List.flatten_cons, List.length_append] at ih ⊢
    rw [ih, sOf_len]
theorem join_at {ls : List (List Nat)} {n : Nat} {f : Nat → V} {H : Hp} {D : Addr} {K : PySem.W.Frag} (hD : H D = some (.lst ((List.range n).map f))) (hl : ls.length = n) (hf : ∀ i, i < n → f i = .str (sOf (ls.getD i [])))
    (hz : ls.flatten.length ≤ 100000) {Q : VK} (hq : Q (.str (sOf ls.flatten)) H) :
    ∃ a p, ∃ ys : List Str, V.str ("" : Str) = .str a ∧ [V.ref D] = [.ref p] ∧ (SqL K H p (ys.map V.str) ∨ SqT K H p (ys.map V.str)) ∧ (ys.map (·.length)).sum + ys.length * a.length ≤ 16777216 ∧ Q (.str (Txt.join a ys)) H := by
  refine ⟨sOf [], D, ls.map sOf, congrArg V.str sOf_nil, rfl, .inl (SqL.of ?_), ?_, ?_⟩
  · rw [hD]
    congr 2
    refine List.ext_getElem (by simp [hl]) fun i h1 h2 => ?_
    simp at h1
    rw [List.getElem_map, List.getElem_range, hf i h1]
    simp [List.getD, hl, h1]
  · rw [sum_len, sOf_len, List.length_nil, Nat.mul_zero, Nat.add_zero]
    omega
  · rw [join0]
    exact hq
def sp_parted : Sp := fun vs H Q _ => ∃ l : List Nat, vs = [.str (sOf l)] ∧ Plain l ∧ Ret (fun v _ => v = .str (sOf (PtM.part 46 l))) H Q
abbrev sc_parted_N : List Str := ["row", "sign"]
theorem sc_parted : FnScope sc_parted_N ["row"] (defScope s_parted) := ⟨rfl, rfl, rfl, by decide +kernel, rfl, by decide +kernel, by decide +kernel⟩
theorem ok_parted {P : Program} {w : World} {K : PySem.W.Frag} {mg : Str → Option Value} {base : Heap} (T : Tx K mg) : Fn P w K mg base "parted" ["row"] (4) sp_parted := by
  obtain ⟨fd, F⟩ := T.D_parted
  refine ⟨_, fd, T.g_parted, F.kp, F.bindsN (fun _ _ _ _ _ _ us hl => match us, hl with | [_], _ => rfl), F.ok sc_parted (fun vs H Q E h => ?_) (fun cdv A outer s H vs Q E hr h => ?_)⟩
  · (obtain ⟨l, rfl, hl, k⟩ := h)
    rfl
  · (obtain ⟨l, rfl, hl, k⟩ := h)
    refine ⟨_, PSs.nox (pss_cons (ps_expr (pe_fn (ok_need_plain T) (hr.mono (by decide)) (pa_cons (pv 0) pa_nil)))
      (pss_one (ps_ret (pe_join pe_str (pe_lc (own := [("sign", 1)]) rfl sc_parted.nd (pi_str (pv 0)) (blkOk_by (N := sc_parted_N) (sc := defScope s_parted) (by decide +kernel)) (fun _ _ _ _ _ => (pg_name (i := 1) sc_parted.nd rfl (Or.inl rfl))) (fun _ _ _ _ _ => pts_nil) (fun _ _ _ _ _ => (pe_op op_add_str pe_str (pv 1)))))))), ?_⟩
    refine ⟨_, rfl, l, rfl, hl, fun v H1 s e => ?_⟩
    refine ⟨⟨_, rfl⟩, ?_⟩
    refine ⟨_, rfl, sOf l, rfl, fun D hD => lcV (w := walk_str) (by show l.toArray.size ≤ 100000; have := hl.1; simp; omega) hD (fun i => .str (sOf [46, l.getD i 0])) (fun _ _ => trivial) ?_ ?_⟩
    · rintro i x H1 H2 Q' hi s ⟨rfl, c, hc, rfl⟩ k'
      refine ⟨rfl, _, rfl, _, _, rfl, rfl, (by show ("." : Str).length + 1 ≤ _; rw [show ("." : Str).length = 1 by decide +kernel]; decide), ?_⟩
      have hc' : l[i]? = some c := by simpa [sOf] using hc
      have e1 : l.getD i 0 = c := by simp [List.getD, hc']
      have e2 : ("." : Str) ++ (⟨#[c]⟩ : Str) = sOf [46, c] := by
        rw [dotS]
        exact sOf_app [46] [c]
      have := k' _ (Same.refl _)
      rw [e1] at this
      rw [e2]
      exact this
    · intro H2 s2 hD2
      have hn : (sOf l).cps.size = l.length := by simp [sOf]
      refine join_at (ls := l.map fun c => [46, c]) hD2 (by simp [hn]) (fun i hi => ?_) ?_ ?_
      · rw [hn] at hi
        simp [List.getD, hi]
      · have := PtM.part_len 46 l
        unfold PtM.part at this
        rw [List.flatMap_def] at this
        rw [this]
        have := hl.1
        omega
      · have := k _ _ (s.trans s2) rfl
        unfold PtM.part at this
        rw [List.flatMap_def] at this
        exact this
theorem ev_part (d : Nat) : ∀ l : List Nat, ev (PtM.part d l) = List.replicate l.length d
  | [] => rfl
  | x :: r => by
    show ev (d :: x :: PtM.part d r) = _
    show d :: ev (PtM.part d r) = _
    rw [ev_part d r]
    rfl
theorem ev_part1 (d : Nat) : ∀ l : List Nat, ev ((PtM.part d l).drop 1) = l
  | [] => rfl
  | [x] => rfl
  | x :: y :: r => by
    have := ev_part1 d (y :: r)
    show ev (x :: d :: y :: PtM.part d r) = _
    show x :: ev ((PtM.part d (y :: r)).drop 1) = _
    rw [this]
def sp_unparted : Sp := fun vs H Q _ => ∃ l : List Nat, vs = [.str (sOf (PtM.part 46 l))] ∧ Plain l ∧ Ret (fun v _ => v = .str (sOf l)) H Q
abbrev sc_unparted_N : List Str := ["row"]
theorem sc_unparted : FnScope sc_unparted_N ["row"] (defScope s_unparted) := ⟨rfl, rfl, rfl, by decide +kernel, rfl, by decide +kernel, by decide +kernel⟩
theorem ok_unparted {P : Program} {w : World} {K : PySem.W.Frag} {mg : Str → Option Value} {base : Heap} (T : Tx K mg) : Fn P w K mg base "unparted" ["row"] (3) sp_unparted := by
  obtain ⟨fd, F⟩ := T.D_unparted
  refine ⟨_, fd, T.g_unparted, F.kp, F.bindsN (fun _ _ _ _ _ _ us hl => match us, hl with | [_], _ => rfl), F.ok sc_unparted (fun vs H Q E h => ?_) (fun cdv A outer s H vs Q E hr h => ?_)⟩
  · (obtain ⟨l, rfl, hl, k⟩ := h)
    rfl
  · (obtain ⟨l, rfl, hl, k⟩ := h)
    refine ⟨_, PSs.nox (pss_cons (ps_expr (pe_fn (ok_need_row T) (hr.mono (by decide)) (pa_cons (pv 0) pa_nil)))
      (pss_cons (ps_if (PW.pt (pw_or (pt_cmpR op_ne (pe_st2S (pv 0) po_none) (pe_op op_rep_str pe_str (pe_callB call_len_str (by rfl) T.z_len (by decide +kernel) (pa_cons (pe_st2S (pv 0) (po_some pe_int)) pa_nil))) (nomark _)) (pw_or1 (pt_cmpR op_in_sign pe_str (pe_st2S (pv 0) (po_some pe_int)) (by rfl))))) (pss_one ps_never) pss_nil)
      (pss_one (ps_ret (pe_st2S (pv 0) (po_some pe_int)))))), ?_⟩
    have hz : (PtM.part 46 l).length ≤ 100000 := by rw [PtM.part_len]; have := hl.1; omega
    have hm : min 1 (PtM.part 46 l).length = 1 ∨ l = [] := by
      cases l with
      | nil => exact .inr rfl
      | cons x r => left; rw [PtM.part_len]; simp; omega
    have e1 : ev ((PtM.part 46 l).drop (min 1 (PtM.part 46 l).length)) = l := by
      rcases hm with e | rfl
      · rw [e]; exact ev_part1 46 l
      · rfl
    refine ⟨_, rfl, _, rfl, part_plain_row hl, fun v H1 s e => ?_⟩
    -- row[::2] != '.' * len(row[1::2])
    refine ⟨_, rfl, _, 0, rfl, hz, rfl, _, rfl, 1, rfl, _, _, rfl, hz, rfl, _, rfl, (by rw [e1, sOf_len]; exact big _ (by have := hl.1; omega)), 46, _, congrArg V.str dotS, rfl, (by rw [e1, sOf_len]; have := hl.1; omega), rfl, ?_⟩
    have e2 : (!decide (V.str (sOf (ev ((PtM.part 46 l).drop 0))) = V.str (sOf (List.replicate (sOf (ev ((PtM.part 46 l).drop (min 1 (PtM.part 46 l).length)))).length 46)))) = false := by
      rw [e1, sOf_len, List.drop_zero, ev_part, decide_eq_true rfl]
      rfl
    rw [e2]
    refine ⟨_, rfl, iteF ?_⟩
    -- '.' in row[1::2]
    refine ⟨_, rfl, 1, rfl, _, _, rfl, hz, rfl, 46, _, congrArg V.str (by decide +kernel), rfl, ?_⟩
    rw [e1]
    have e3 : decide (46 ∈ (sOf l).cps.toList) = false := decide_eq_false (dot_notin hl)
    rw [e3]
    refine ⟨_, rfl, iteF ?_⟩
    refine ⟨_, rfl, 1, rfl, _, _, rfl, hz, rfl, ?_⟩
    rw [e1]
    exact k _ _ s rfl
end Pt
end
section
set_option maxRecDepth 100000
set_option maxHeartbeats 4000000
namespace Pt
open PySem PySem.Spec PyProof.Rows L2
theorem map_range_set {α : Type} {n g : Nat} (f : Nat → α) (v : α) : ((List.range n).map f).set g v = (List.range n).map (fun x => if x = g then v else f x) := by
  refine List.ext_getElem (by simp) fun i h1 h2 => ?_
  simp only [List.getElem_set, List.getElem_map, List.getElem_range]
  by_cases e : g = i
  · subst e; simp
  · have : ¬ i = g := fun z => e z.symm
    simp [e, this]
theorem get_map_range {α : Type} {n i : Nat} (f : Nat → α) (h : i < n) : ((List.range n).map f)[i]? = some (f i) := by simp [h]
theorem rep_one {v : V} (n : Nat) : (List.replicate n [v]).flatten = (List.range n).map (fun _ => v) := by
  rw [List.flatten_replicate_singleton, List.map_const', List.length_range]
theorem ix_of {n g : Nat} (h : g < n) : ixN n (g : Int) = some g := by
  unfold ixN
  rw [if_pos (by omega), if_pos (by omega)]
  simp
theorem mem_take_succ {t : List Nat} {i g : Nat} (h : i < t.length) : g ∈ t.take (i + 1) ↔ g ∈ t.take i ∨ g = t.getD i 0 := by
  have e : t.getD i 0 = t[i] := by simp [List.getD, h]
  rw [List.take_succ_eq_append_getElem h, List.mem_append, List.mem_singleton, e]
abbrev LAt (H : Hp) (a : Addr) (l : List Nat) : Prop := H a = some (.lst (IL l))
def sp_is_turning : Sp := fun vs H Q _ => ∃ (a : Addr) (t : List Nat), vs = [.ref a] ∧ LAt H a t ∧ PtM.Turn t ∧ t.length ≤ 96 ∧ Ret (fun v _ => v = .bl true) H Q
abbrev sc_is_turning_N : List Str := ["thing", "seen", "goal"]
theorem sc_is_turning : FnScope sc_is_turning_N ["thing"] (defScope s_is_turning) := ⟨rfl, rfl, rfl, by decide +kernel, rfl, by decide +kernel, by decide +kernel⟩
theorem ok_is_turning {P : Program} {w : World} {K : PySem.W.Frag} {mg : Str → Option Value} {base : Heap} (T : Tx K mg) : Fn P w K mg base "is_turning" ["thing"] (3) sp_is_turning := by
  obtain ⟨fd, F⟩ := T.D_is_turning
  refine ⟨_, fd, T.g_is_turning, F.kp, F.bindsN (fun _ _ _ _ _ _ us hl => match us, hl with | [_], _ => rfl), F.ok sc_is_turning (fun vs H Q E h => ?_) (fun cdv A outer s H vs Q E hr h => ?_)⟩
  · (obtain ⟨a, t, rfl, ha, ht, hz, k⟩ := h)
    rfl
  · (obtain ⟨a, t, rfl, ha, ht, hz, k⟩ := h)
    refine ⟨_, PSs.nox (pss_cons (ps_if (PW.pt (pw_or (pt_not (pt_val (pe_callB call_isiT (by rfl) T.z_isinstance (by decide +kernel) (pa_cons (pv 0) (pa_cons (pe_tup (pa_cons (pe_bltn (v := .ty "list") (by rfl) T.z_list (by decide +kernel) rfl) (pa_cons (pe_bltn (v := .ty "tuple") (by rfl) T.z_tuple (by decide +kernel) rfl) pa_nil))) pa_nil))))) (pw_or1 (pt_cmpR op_gt (pe_callB call_len_seq (by rfl) T.z_len (by decide +kernel) (pa_cons (pv 0) pa_nil)) (pe_glob (v := .int 96) rfl (Classical.choose_spec T.c_MOST_LINES) ⟨_, rfl⟩) (nomark _))))) (pss_one (ps_ret pe_bl)) pss_nil)
      (pss_cons (ps_set (i := 1) sc_is_turning.nd rfl (Or.inl rfl) (pe_op op_rep (pe_lst (pa_cons pe_bl pa_nil)) (pe_callB call_len_seq (by rfl) T.z_len (by decide +kernel) (pa_cons (pv 0) pa_nil))))
      (pss_cons (ps_for PassesOwn.never rfl (pi_list (pv 0)) (pg_name (i := 2) sc_is_turning.nd rfl (Or.inl rfl))
      (pss_cons (ps_if (PW.pt (pw_or (pt_not (pt_val (pe_fn (ok_is_within T) (hr.mono (by decide)) (pa_cons (pv 2) (pa_cons pe_int (pa_cons (pe_op op_sub (pe_callB call_len_seq (by rfl) T.z_len (by decide +kernel) (pa_cons (pv 0) pa_nil)) pe_int) pa_nil)))))) (pw_or1 (pt_val (pe_ix ix_list (pv 1) (pv 2) (fun _ _ => rfl)))))) (pss_one (ps_ret pe_bl)) pss_nil)
      (pss_one (ps_asg pe_bl (pg_sub (pv 1) (pv 2) set_list)))))
      (pss_one (ps_ret pe_bl))))), ?_⟩
    have hl : (IL t).length = t.length := by simp
    refine ⟨_, rfl, (by show 2 ≤ sizeLine; decide), fun p hp => ?_⟩
    have s1 : Same H (upd H p (.tup [.ty "list", .ty "tuple"])) := same_new hp
    refine ⟨_, p, _, .type "list", [.type "list", .type "tuple"], true, rfl, upd_same, .cons (.ty _) (.cons (.ty _) .nil), .base (.lst (s1 _ _ ha)), kitAny_cons (kit_ty (r := true) (by decide +kernel)) (fun z => nomatch z) (fun _ => rfl), _, rfl, iteF ?_⟩
    refine ⟨_, rfl, a, _, rfl, .inl (SqL.of (s1 _ _ ha)), _, _, rfl, rfl, _, rfl, iteDF (by rw [hl]; omega) ?_⟩
    -- seen = [False] * len(thing)
    refine ⟨(by show 1 ≤ sizeLine; decide), fun q hq => ?_⟩
    have s2 := same_upd s1 (o := .lst [.bl false]) (s1.free hq)
    refine ⟨_, rfl, a, _, rfl, .inl (SqL.of (s2 _ _ ha)), q, _, [.bl false], rfl, rfl, upd_same, by omega, (by rw [hl]; omega), big _ (by rw [hl]; simp; omega), fun r hr => ?_⟩
    have hr0 : H r = none := s2.free hr
    have s3 := same_upd s2 (o := .lst (List.replicate ((IL t).length : Int).toNat [.bl false]).flatten) hr0
    refine ⟨_, rfl, a, rfl, ⟨_, SqL.of (s3 _ _ ha)⟩, for_list (K := K) (a := a) (xs := IL t) (fun i σ H' => ∃ v : Option V, σ = [some (.ref a), some (.ref r), v] ∧ Same H H' ∧ H' r = some (.lst ((List.range t.length).map fun g => .bl (decide (g ∈ t.take i)))))
      ⟨none, rfl, s3, ?_⟩ (fun i σ H' _ ⟨_, _, s, _⟩ => SqL.of (s _ _ ha)) ?_ ?_⟩
    · rw [upd_same, hl]
      have e : ((t.length : Int)).toNat = t.length := by omega
      rw [e, rep_one]
      simp
    · rintro i x σ H' hi ⟨v, rfl, s, hr'⟩
      obtain ⟨hb, rfl⟩ := IL_at hi
      have hm : t.getD i 0 = t[i] := by simp [List.getD, hb]
      have hlt : t.getD i 0 < t.length := by rw [hm]; exact ht.2 _ (List.getElem_mem hb)
      have hni : ¬ t.getD i 0 ∈ t.take i := by
        rw [hm]
        intro z
        obtain ⟨j, hj, e⟩ := List.getElem_of_mem z
        rw [List.getElem_take] at e
        have := (List.getElem_inj ht.1).mp e
        simp at hj
        omega
      refine ⟨_, rfl, _, rfl, a, _, rfl, .inl (SqL.of (s _ _ ha)), _, _, rfl, rfl, _, _, _, rfl, ?_⟩
      have e1 : (decide ((0 : Int) ≤ ((t.getD i 0 : Nat) : Int)) && decide (((t.getD i 0 : Nat) : Int) ≤ (((IL t).length : Nat) : Int) - 1)) = true := by
        rw [decide_eq_true (by omega), decide_eq_true (by rw [hl]; omega)]; rfl
      rw [e1]
      refine ⟨_, rfl, iteF ?_⟩
      refine ⟨_, rfl, _, rfl, r, _, _, _, rfl, rfl, SqL.of hr', atI_nat (get_map_range _ hlt), ?_⟩
      rw [decide_eq_false hni]
      refine ⟨_, rfl, iteF ?_⟩
      refine ⟨_, rfl, _, rfl, r, _, _, _, rfl, rfl, hr', ix_of (by simpa using hlt), ?_⟩
      refine ⟨_, rfl, same_upd s hr0, ?_⟩
      rw [upd_same, map_range_set]
      congr 2
      refine List.map_congr_left fun g hg => ?_
      by_cases e : g = t.getD i 0
      · rw [if_pos e, decide_eq_true ((mem_take_succ hb).mpr (.inr e))]
      · rw [if_neg e]
        congr 1
        exact decide_eq_decide.mpr ⟨fun h => (mem_take_succ hb).mpr (.inl h), fun h => ((mem_take_succ hb).mp h).resolve_right e⟩
    · rintro σ H' ⟨v, rfl, s, _⟩
      exact k _ _ s rfl
def sp_need_turning : Sp := fun vs H Q _ => ∃ (a : Addr) (t : List Nat), vs = [.ref a] ∧ LAt H a t ∧ PtM.Turn t ∧ t.length ≤ 96 ∧ Ret (fun v _ => v = .non) H Q
abbrev sc_need_turning_N : List Str := ["turning"]
theorem sc_need_turning : FnScope sc_need_turning_N ["turning"] (defScope s_need_turning) := ⟨rfl, rfl, rfl, by decide +kernel, rfl, by decide +kernel, by decide +kernel⟩
theorem ok_need_turning {P : Program} {w : World} {K : PySem.W.Frag} {mg : Str → Option Value} {base : Heap} (T : Tx K mg) : Fn P w K mg base "need_turning" ["turning"] (4) sp_need_turning := by
  obtain ⟨fd, F⟩ := T.D_need_turning
  refine ⟨_, fd, T.g_need_turning, F.kp, F.bindsN (fun _ _ _ _ _ _ us hl => match us, hl with | [_], _ => rfl), F.ok sc_need_turning (fun vs H Q E h => ?_) (fun cdv A outer s H vs Q E hr h => ?_)⟩
  · (obtain ⟨a, t, rfl, ha, ht, hz, k⟩ := h)
    rfl
  · (obtain ⟨a, t, rfl, ha, ht, hz, k⟩ := h)
    refine ⟨_, PSs.nox (pss_one (ps_if (pt_not (pt_val (pe_fn (ok_is_turning T) (hr.mono (by decide)) (pa_cons (pv 0) pa_nil)))) (pss_one ps_never) pss_nil)), ?_⟩
    refine ⟨_, rfl, a, t, rfl, ha, ht, hz, fun v H1 s e => ?_⟩
    subst e
    exact ⟨_, rfl, iteF (k _ _ s rfl)⟩
def sp_need_place_turnings : Sp := fun vs H Q _ => ∃ i m : Int, vs = [.int i, .int m] ∧ 0 ≤ i ∧ i ≤ m ∧ Q .non H
abbrev sc_need_place_turnings_N : List Str := ["place", "most"]
theorem sc_need_place_turnings : FnScope sc_need_place_turnings_N ["place", "most"] (defScope s_need_place_turnings) := ⟨rfl, rfl, rfl, by decide +kernel, rfl, by decide +kernel, by decide +kernel⟩
theorem ok_need_place_turnings {P : Program} {w : World} {K : PySem.W.Frag} {mg : Str → Option Value} {base : Heap} (T : Tx K mg) : Fn P w K mg base "need_place_turnings" ["place", "most"] (3) sp_need_place_turnings := by
  obtain ⟨fd, F⟩ := T.D_need_place_turnings
  refine ⟨_, fd, T.g_need_place_turnings, F.kp, F.bindsN (fun _ _ _ _ _ _ us hl => match us, hl with | [_, _], _ => rfl), F.ok sc_need_place_turnings (fun vs H Q E h => ?_) (fun cdv A outer s H vs Q E hr h => ?_)⟩
  · (obtain ⟨i, m, rfl, h0, h1, k⟩ := h)
    rfl
  · (obtain ⟨i, m, rfl, h0, h1, k⟩ := h)
    refine ⟨_, PSs.nox (pss_one (ps_if (pt_not (pt_val (pe_fn (ok_is_within T) (hr.mono (by decide)) (pa_cons (pv 0) (pa_cons pe_int (pa_cons (pv 1) pa_nil)))))) (pss_one ps_never) pss_nil)), ?_⟩
    refine ⟨_, rfl, _, rfl, i, 0, m, rfl, ?_⟩
    have e1 : (decide ((0 : Int) ≤ i) && decide (i ≤ m)) = true := by rw [decide_eq_true h0, decide_eq_true h1]; rfl
    rw [e1]
    exact ⟨_, rfl, iteF k⟩
theorem rg_nat (n : Nat) : rgV 0 (n : Int) = IL (List.range n) := by
  unfold rgV
  have e : ((n : Int) - 0).toNat = n := by omega
  rw [e]
  simp [IL, nV, Function.comp_def]
def sp_straight : Sp := fun vs H Q _ => ∃ n : Nat, vs = [nV n] ∧ n ≤ 96 ∧ Ret (fun v H' => ∃ a, v = .ref a ∧ H a = none ∧ LAt H' a (List.range n)) H Q
abbrev sc_straight_N : List Str := ["many"]
theorem sc_straight : FnScope sc_straight_N ["many"] (defScope s_straight) := ⟨rfl, rfl, rfl, by decide +kernel, rfl, by decide +kernel, by decide +kernel⟩
theorem ok_straight {P : Program} {w : World} {K : PySem.W.Frag} {mg : Str → Option Value} {base : Heap} (T : Tx K mg) : Fn P w K mg base "straight" ["many"] (4) sp_straight := by
  obtain ⟨fd, F⟩ := T.D_straight
  refine ⟨_, fd, T.g_straight, F.kp, F.bindsN (fun _ _ _ _ _ _ us hl => match us, hl with | [_], _ => rfl), F.ok sc_straight (fun vs H Q E h => ?_) (fun cdv A outer s H vs Q E hr h => ?_)⟩
  · (obtain ⟨n, rfl, hn, k⟩ := h)
    rfl
  · (obtain ⟨n, rfl, hn, k⟩ := h)
    refine ⟨_, PSs.nox (pss_cons (ps_expr (pe_fn (ok_need_place_turnings T) (hr.mono (by decide)) (pa_cons (pv 0) (pa_cons (pe_glob (v := .int 96) rfl (Classical.choose_spec T.c_MOST_LINES) ⟨_, rfl⟩) pa_nil))))
      (pss_one (ps_ret (pe_listRg rfl rfl T.z_list (prg_1 rfl T.z_range (pv 0)))))), ?_⟩
    refine ⟨_, rfl, n, 96, rfl, by omega, by omega, ?_⟩
    refine ⟨_, rfl, _, rfl, RgOk.of_le (by omega) (by omega) (by omega) (by omega), fun q hq => ?_⟩
    refine k _ _ (same_new hq) ⟨q, rfl, hq, ?_⟩
    show upd H q _ q = _
    rw [upd_same]
    show some (HO.lst (rgV 0 (n : Int))) = _
    rw [rg_nat]
def sp_opposite : Sp := fun vs H Q _ => ∃ (a : Addr) (t : List Nat), vs = [.ref a] ∧ LAt H a t ∧ PtM.Turn t ∧ t.length ≤ 96 ∧ Ret (fun v H' => ∃ b, v = .ref b ∧ H b = none ∧ LAt H' b (PtM.opp t)) H Q
abbrev sc_opposite_N : List Str := ["turning", "found", "start", "goal"]
theorem sc_opposite : FnScope sc_opposite_N ["turning"] (defScope s_opposite) := ⟨rfl, rfl, rfl, by decide +kernel, rfl, by decide +kernel, by decide +kernel⟩
theorem ok_opposite {P : Program} {w : World} {K : PySem.W.Frag} {mg : Str → Option Value} {base : Heap} (T : Tx K mg) : Fn P w K mg base "opposite" ["turning"] (5) sp_opposite := by
  obtain ⟨fd, F⟩ := T.D_opposite
  refine ⟨_, fd, T.g_opposite, F.kp, F.bindsN (fun _ _ _ _ _ _ us hl => match us, hl with | [_], _ => rfl), F.ok sc_opposite (fun vs H Q E h => ?_) (fun cdv A outer s H vs Q E hr h => ?_)⟩
  · (obtain ⟨a, t, rfl, ha, ht, hz, k⟩ := h)
    rfl
  · (obtain ⟨a, t, rfl, ha, ht, hz, k⟩ := h)
    refine ⟨_, PSs.nox (pss_cons (ps_expr (pe_fn (ok_need_turning T) (hr.mono (by decide)) (pa_cons (pv 0) pa_nil)))
      (pss_cons (ps_set (i := 1) sc_opposite.nd rfl (Or.inl rfl) (pe_op op_rep (pe_lst (pa_cons pe_int pa_nil)) (pe_callB call_len_seq (by rfl) T.z_len (by decide +kernel) (pa_cons (pv 0) pa_nil))))
      (pss_cons (ps_for PassesOwn.never rfl (pi_enum (by rfl) T.z_enumerate (pa_cons (pv 0) pa_nil)) (pg_tup rfl (pgs_cons (pg_name (i := 2) sc_opposite.nd rfl (Or.inl rfl)) (pgs_cons (pg_name (i := 3) sc_opposite.nd rfl (Or.inl rfl)) pgs_nil)))
      (pss_one (ps_asg (pv 2) (pg_sub (pv 1) (pv 3) set_list))))
      (pss_one (ps_ret (pv 1)))))), ?_⟩
    have hl : (IL t).length = t.length := by simp
    refine ⟨_, rfl, a, t, rfl, ha, ht, hz, fun v H1 s1 e => ?_⟩
    refine ⟨(by show 1 ≤ sizeLine; decide), fun q hq => ?_⟩
    have s2 := same_upd s1 (o := .lst [.int 0]) (s1.free hq)
    refine ⟨_, rfl, a, _, rfl, .inl (SqL.of (s2 _ _ ha)), q, _, [.int 0], rfl, rfl, upd_same, by omega, (by rw [hl]; omega), big _ (by rw [hl]; simp; omega), fun r hr => ?_⟩
    have hr0 : H r = none := s2.free hr
    have s3 := same_upd s2 (o := .lst (List.replicate ((IL t).length : Int).toNat [.int 0]).flatten) hr0
    refine ⟨_, rfl, a, _, rfl, SqL.of (s3 _ _ ha), for_it (walk_enum (xs := IL t)) (fun i σ H' => ∃ v w : Option V, σ = [some (.ref a), some (.ref r), v, w] ∧ Same H H' ∧ H' r = some (.lst ((List.range t.length).map fun g => nV (if t.idxOf g < i then t.idxOf g else 0))))
      ⟨none, none, rfl, s3, ?_⟩ (fun i σ H' _ ⟨_, _, _, s, _⟩ => SqL.of (s _ _ ha)) ?_ ?_⟩
    · rw [upd_same, hl]
      have e : ((t.length : Int)).toNat = t.length := by omega
      rw [e, rep_one]
      simp [nV]
    · rintro i x σ H' H'' hi ⟨v, w, rfl, s, hr'⟩ ⟨Tp, y, z, rfl, hT, rfl, e1, e2⟩
      obtain ⟨hb, rfl⟩ := IL_at e2
      cases e1
      have s' : Same H (upd H' Tp (.tup [.int i, nV (t.getD i 0)])) := same_upd s (s.free hT)
      have hr'' : (upd H' Tp (.tup [.int i, nV (t.getD i 0)])) r = _ := (upd_ne (ne_of_none hr' hT)).trans hr'
      have hm : t.getD i 0 = t[i] := by simp [List.getD, hb]
      have hlt : t.getD i 0 < t.length := by rw [hm]; exact ht.2 _ (List.getElem_mem hb)
      refine ⟨Tp, _, rfl, SqT.of upd_same, rfl, _, _, rfl, _, _, rfl, rfl, ?_⟩
      refine ⟨_, rfl, _, rfl, _, rfl, r, _, _, _, rfl, rfl, hr'', ix_of (by simpa using hlt), ?_⟩
      refine ⟨_, _, rfl, same_upd s' hr0, ?_⟩
      rw [upd_same, map_range_set]
      congr 2
      refine List.map_congr_left fun g hg => ?_
      have hg := List.mem_range.mp hg
      by_cases e : g = t.getD i 0
      · have : t.idxOf g = i := by rw [e, hm]; exact PtM.get_idx ht hb
        rw [if_pos e, this, if_pos (by omega)]
        rfl
      · rw [if_neg e]
        have : t.idxOf g ≠ i := fun z => e (by rw [hm]; have := PtM.idx_get ht hg; simp only [z] at this; exact this.symm)
        by_cases c : t.idxOf g < i
        · rw [if_pos c, if_pos (by omega)]
        · rw [if_neg c, if_neg (by omega)]
    · rintro σ H' ⟨v, w, rfl, s, hr'⟩
      refine ⟨_, rfl, k _ _ s ⟨r, rfl, hr0, ?_⟩⟩
      show H' r = _
      rw [hr']
      congr 2
      unfold PtM.opp IL
      rw [List.map_map]
      refine List.map_congr_left fun g hg => ?_
      have := PtM.idx_lt ht (List.mem_range.mp hg)
      rw [if_pos (by simpa using this)]
      rfl
end Pt
end
section
set_option maxRecDepth 100000
set_option maxHeartbeats 4000000
namespace Pt
open PySem PySem.Spec PyProof.Rows L2
def hide (p : Addr) (H : Hp) : Hp := fun b => if b = p then none else H b
theorem hide_upd {p : Addr} {H : Hp} {o : HO} : hide p (upd H p o) = hide p H := by
  funext b
  unfold hide
  by_cases e : b = p
  · rw [if_pos e, if_pos e]
  · rw [if_neg e, if_neg e, upd_ne e]
theorem of_hide {p b : Addr} {H : Hp} {o : HO} (h : hide p H b = some o) : H b = some o ∧ b ≠ p := by
  unfold hide at h
  by_cases e : b = p
  · rw [if_pos e] at h; cases h
  · rw [if_neg e] at h; exact ⟨h, e⟩
theorem hide_of {p b : Addr} {H : Hp} {o : HO} (h : H b = some o) (e : b ≠ p) : hide p H b = some o := by
  unfold hide
  rw [if_neg e]
  exact h
theorem hide_same {p : Addr} {H H' : Hp} (s : Same H H') : Same (hide p H) (hide p H') := fun b o h => hide_of (s b o (of_hide h).1) (of_hide h).2
theorem same_hide {p : Addr} {H H' : Hp} (s : Same H H') (h : H p = none) : Same H (hide p H') := fun b o e => hide_of (s b o e) (ne_of_none e h)
theorem unhide {p : Addr} {H : Hp} : Same (hide p H) H := fun b o h => (of_hide h).1
theorem cut_from {xs : List V} {k : Nat} (h : k ≤ xs.length) : cutV xs (some (k : Int)) none = xs.drop k := by
  unfold cutV
  rw [HT.sIx_nat, HT.sIx_none, Nat.min_eq_left h]
  exact List.take_of_length_le (by simp)
theorem cut_to {xs : List V} {k : Nat} (h : k ≤ xs.length) : cutV xs none (some (k : Int)) = xs.take k := by
  unfold cutV
  rw [HT.sIx_nat, HT.sIx_none, Nat.min_eq_left h]
  simp
theorem cut_mid {xs : List V} {j k : Nat} (hj : j ≤ k) (h : k ≤ xs.length) : cutV xs (some (j : Int)) (some (k : Int)) = (xs.drop j).take (k - j) := by
  unfold cutV
  rw [HT.sIx_nat, HT.sIx_nat, Nat.min_eq_left h, Nat.min_eq_left (Nat.le_trans hj h)]
theorem at_last {xs : List V} {v : V} (h : xs[xs.length - 1]? = some v) : atI xs (-1) = some v := by
  have hl : xs.length - 1 < xs.length := (List.getElem?_eq_some_iff.mp h).1
  unfold atI ixN
  rw [if_neg (by decide), if_pos (by omega)]
  have e : ((-1 : Int) + (xs.length : Int)).toNat = xs.length - 1 := by omega
  rw [e]
  exact h
theorem mix_lt {x y : Nat} (h : y < x) (xs ys : List Nat) : PtM.mix (x :: xs) (y :: ys) = y :: PtM.mix (x :: xs) ys := by
  simp [PtM.mix, h]
theorem mix_ge {x : Nat} (xs ys : List Nat) (h : ys = [] ∨ x ≤ ys.getD 0 0) : PtM.mix (x :: xs) ys = x :: PtM.mix xs ys := by
  cases ys with
  | nil => simp [PtM.mix]
  | cons y r =>
    have : ¬ y < x := by
      rcases h with h | h
      · cases h
      · simp at h; omega
    simp [PtM.mix, this]
theorem getD_drop {l : List Nat} {i : Nat} (h : i < l.length) : l.drop i = l.getD i 0 :: l.drop (i + 1) := by
  rw [List.drop_eq_getElem_cons h]
  congr 1
  simp [List.getD, h]
def sp_mixed : Sp := fun vs H Q _ => ∃ (a b : Addr) (xs ys : List Nat), vs = [.ref a, .ref b] ∧ LAt H a xs ∧ LAt H b ys ∧ xs.length + ys.length ≤ 1000 ∧ Ret (fun v H' => ∃ r, v = .ref r ∧ H r = none ∧ LAt H' r (PtM.mix xs ys)) H Q
abbrev sc_mixed_N : List Str := ["one", "other", "found", "at", "number"]
theorem sc_mixed : FnScope sc_mixed_N ["one", "other"] (defScope s_mixed) := ⟨rfl, rfl, rfl, by decide +kernel, rfl, by decide +kernel, by decide +kernel⟩
theorem ok_mixed {P : Program} {w : World} {K : PySem.W.Frag} {mg : Str → Option Value} {base : Heap} (T : Tx K mg) : Fn P w K mg base "mixed" ["one", "other"] (1) sp_mixed := by
  obtain ⟨fd, F⟩ := T.D_mixed
  refine ⟨_, fd, T.g_mixed, F.kp, F.bindsN (fun _ _ _ _ _ _ us hl => match us, hl with | [_, _], _ => rfl), F.ok sc_mixed (fun vs H Q E h => ?_) (fun cdv A outer s H vs Q E hr h => ?_)⟩
  · (obtain ⟨a, b, xs, ys, rfl, ha, hb, hz, k⟩ := h)
    rfl
  · (obtain ⟨a, b, xs, ys, rfl, ha, hb, hz, k⟩ := h)
    refine ⟨_, PSs.nox (pss_cons (ps_set (i := 2) sc_mixed.nd rfl (Or.inl rfl) (pe_lst pa_nil))
      (pss_cons (ps_set (i := 3) sc_mixed.nd rfl (Or.inl rfl) pe_int)
      (pss_cons (ps_for PassesOwn.never rfl (pi_list (pv 0)) (pg_name (i := 4) sc_mixed.nd rfl (Or.inl rfl))
      (pss_cons (ps_while PassesOwn.never (PW.pt (pw_and (pt_cmpR op_lt (pv 3) (pe_callB call_len_seq (by rfl) T.z_len (by decide +kernel) (pa_cons (pv 1) pa_nil)) (nomark _)) (pw_and1 (pt_cmpR op_lt (pe_ix ix_list (pv 1) (pv 3) (fun _ _ => rfl)) (pv 4) (nomark _)))))
      (pss_cons (ps_expr (pe_bm PySem.F.plainAttrs_list PySem.F.slot_list_append PySem.F.type_list_append mt_append (pv 2) (pa_cons (pe_ix ix_list (pv 1) (pv 3) (fun _ _ => rfl)) pa_nil)))
      (pss_one (ps_aug (i := 3) sc_mixed.nd rfl (Or.inl rfl) pe_int ip_add))))
      (pss_one (ps_expr (pe_bm PySem.F.plainAttrs_list PySem.F.slot_list_append PySem.F.type_list_append mt_append (pv 2) (pa_cons (pv 4) pa_nil))))))
      (pss_one (ps_ret (pe_op op_cat (pv 2) (pe_slice sl_list (pv 1) (po_some (pv 3)) po_none))))))), ?_⟩
    have ly : (IL ys).length = ys.length := by simp
    refine ⟨Nat.zero_le _, fun f hf => ?_⟩
    have s1 : Same H (upd H f (.lst [])) := same_new hf
    refine ⟨_, rfl, a, rfl, ⟨_, SqL.of (s1 _ _ ha)⟩, for_list (K := K) (a := a) (xs := IL xs) (fun i σ H' => ∃ (F : List Nat) (j : Nat) (v : Option V), σ = [some (.ref a), some (.ref b), some (.ref f), some (nV j), v] ∧ Same H H' ∧ LAt H' f F ∧ j ≤ ys.length ∧ F.length = i + j ∧
        F ++ PtM.mix (xs.drop i) (ys.drop j) = PtM.mix xs ys)
      ⟨[], 0, none, rfl, s1, upd_same, Nat.zero_le _, rfl, by simp⟩ (fun i σ H' _ ⟨_, _, _, _, s, _⟩ => SqL.of (s _ _ ha)) ?_ ?_⟩
    · rintro i x σ H1 hi ⟨F, j, v, rfl, s, hF, hj, hl, hm⟩
      obtain ⟨hbd, rfl⟩ := IL_at hi
      have hm' : F ++ PtM.mix (xs.getD i 0 :: xs.drop (i + 1)) (ys.drop j) = PtM.mix xs ys := by rw [← getD_drop hbd]; exact hm
      refine ⟨fun m σ H' => ∃ (F : List Nat) (j : Nat), m = ys.length - j ∧ σ = [some (.ref a), some (.ref b), some (.ref f), some (nV j), some (nV (xs.getD i 0))] ∧ Same H H' ∧ LAt H' f F ∧ j ≤ ys.length ∧ F.length = i + j ∧
        F ++ PtM.mix (xs.getD i 0 :: xs.drop (i + 1)) (ys.drop j) = PtM.mix xs ys, ⟨_, F, j, rfl, rfl, s, hF, hj, hl, hm'⟩, ?_⟩
      rintro m σ H' ⟨F, j, rfl, rfl, s, hF, hj, hl, hm⟩
      -- behind the while: found.append(number)
      have after : (ys.drop j = [] ∨ xs.getD i 0 ≤ (ys.drop j).getD 0 0) → ∀ D : Ends, (∀ σ2 H2, (∃ (F : List Nat) (j : Nat) (v : Option V), σ2 = [some (.ref a), some (.ref b), some (.ref f), some (nV j), v] ∧ Same H H2 ∧ LAt H2 f F ∧ j ≤ ys.length ∧ F.length = i + 1 + j ∧
          F ++ PtM.mix (xs.drop (i + 1)) (ys.drop j) = PtM.mix xs ys) → D.nx σ2 H2) →
          tDrop (tBM K "list" rAppend (tVar 2) (tCons (tVar 4) tNil)) D [some (.ref a), some (.ref b), some (.ref f), some (nV j), some (nV (xs.getD i 0))] H' := by
        intro hc D hD
        refine ⟨_, rfl, .inl ⟨rfl, _, SqL.of hF⟩, _, rfl, f, _, _, rfl, rfl, hF, bigS _ (by simp; omega), ?_⟩
        refine hD _ _ ⟨F ++ [xs.getD i 0], j, _, rfl, same_upd s hf, by rw [LAt, upd_same]; simp [IL], hj, by simp; omega, ?_⟩
        rw [← hm, mix_ge _ _ hc]
        simp
      refine ⟨_, rfl, _, rfl, b, _, rfl, .inl (SqL.of (s _ _ hb)), _, _, rfl, rfl, _, rfl, ?_⟩
      by_cases c : j < ys.length
      · refine iteDT (by rw [ly]; exact Int.ofNat_lt.mpr c) ?_
        refine ⟨_, rfl, _, rfl, b, _, _, _, rfl, rfl, SqL.of (s _ _ hb), atI_nat (IL_get c), ?_⟩
        refine ⟨_, rfl, _, _, rfl, rfl, _, rfl, ?_⟩
        by_cases d : ys.getD j 0 < xs.getD i 0
        · refine iteDT (Int.ofNat_lt.mpr d) ?_
          refine ⟨fun σ' H2 => ∃ (F : List Nat), σ' = [some (.ref a), some (.ref b), some (.ref f), some (nV (j + 1)), some (nV (xs.getD i 0))] ∧ Same H H2 ∧ LAt H2 f F ∧ F.length = i + (j + 1) ∧
            F ++ PtM.mix (xs.getD i 0 :: xs.drop (i + 1)) (ys.drop (j + 1)) = PtM.mix xs ys, fun σ' H2 ⟨F, e1, s, hF, hl, hm⟩ => ⟨ys.length - (j + 1), by omega, F, j + 1, rfl, e1, s, hF, by omega, hl, hm⟩, ?_⟩
          refine ⟨_, rfl, .inl ⟨rfl, _, SqL.of hF⟩, _, rfl, _, rfl, b, _, _, _, rfl, rfl, SqL.of (s _ _ hb), atI_nat (IL_get c), f, _, _, rfl, rfl, hF, bigS _ (by simp; omega), ?_⟩
          refine ⟨_, rfl, _, _, rfl, rfl, F ++ [ys.getD j 0], rfl, same_upd s hf, by rw [LAt, upd_same]; simp [IL], by simp; omega, ?_⟩
          rw [← hm, getD_drop c, mix_lt d]
          simp
        · refine iteDF (fun z => d (Int.ofNat_lt.mp z)) ?_
          refine after (.inr ?_) _ (fun _ _ h => h)
          rw [getD_drop c]
          exact Nat.le_of_not_lt d
      · refine iteDF (by rw [ly]; exact fun z => c (Int.ofNat_lt.mp z)) ?_
        exact after (.inl (List.drop_eq_nil_of_le (by omega))) _ (fun _ _ h => h)
    · rintro σ H1 ⟨F, j, v, rfl, s, hF, hj, hl, hm⟩
      refine ⟨_, rfl, _, rfl, _, rfl, _, rfl, b, _, rfl, SqL.of (s _ _ hb), fun p hp => ?_⟩
      have hfp : f ≠ p := ne_of_none hF hp
      refine ⟨f, p, _, _, rfl, rfl, (upd_ne hfp).trans hF, upd_same, big _ ?_, fun r hr => ?_⟩
      · have := cutV_length (IL ys) (some (j : Int)) none
        have e1 : (IL F).length = F.length := by simp
        have e2 : (IL xs).length = xs.length := by simp
        omega
      · have s2 := same_upd s (o := .lst (cutV (IL ys) (some (j : Int)) none)) (s.free hp)
        have hr0 : H r = none := s2.free hr
        refine k _ _ (same_upd s2 hr0) ⟨r, rfl, hr0, ?_⟩
        rw [LAt, upd_same, cut_from (by simpa using hj)]
        rw [← hm]
        have e : xs.drop (IL xs).length = [] := List.drop_eq_nil_of_le (by simp)
        rw [e]
        simp [PtM.mix, IL]
def sp_lesser : Sp := fun vs H Q _ => ∃ (a : Addr) (l : List Nat) (e : Nat), vs = [.ref a, nV e] ∧ LAt H a l ∧ PtM.Asc l ∧ l.length ≤ 1000 ∧ Ret (fun v _ => v = nV (PtM.cntL l e)) H Q
abbrev sc_lesser_N : List Str := ["block", "end", "low", "high", "amid"]
theorem sc_lesser : FnScope sc_lesser_N ["block", "end"] (defScope s_lesser) := ⟨rfl, rfl, rfl, by decide +kernel, rfl, by decide +kernel, by decide +kernel⟩
theorem ok_lesser {P : Program} {w : World} {K : PySem.W.Frag} {mg : Str → Option Value} {base : Heap} (T : Tx K mg) : Fn P w K mg base "lesser" ["block", "end"] (1) sp_lesser := by
  obtain ⟨fd, F⟩ := T.D_lesser
  refine ⟨_, fd, T.g_lesser, F.kp, F.bindsN (fun _ _ _ _ _ _ us hl => match us, hl with | [_, _], _ => rfl), F.ok sc_lesser (fun vs H Q E h => ?_) (fun cdv A outer s H vs Q E hr h => ?_)⟩
  · (obtain ⟨a, l, e, rfl, ha, hs, hz, k⟩ := h)
    rfl
  · (obtain ⟨a, l, e, rfl, ha, hs, hz, k⟩ := h)
    refine ⟨_, PSs.nox (pss_cons (ps_set (i := 2) sc_lesser.nd rfl (Or.inl rfl) pe_int)
      (pss_cons (ps_set (i := 3) sc_lesser.nd rfl (Or.inl rfl) (pe_callB call_len_seq (by rfl) T.z_len (by decide +kernel) (pa_cons (pv 0) pa_nil)))
      (pss_cons (ps_while PassesOwn.never (pt_cmpR op_lt (pv 2) (pv 3) (nomark _))
      (pss_cons (ps_set (i := 4) sc_lesser.nd rfl (Or.inl rfl) (pe_op op_fdivNat (pe_op op_add (pv 2) (pv 3)) pe_int))
      (pss_one (ps_if (pt_cmpR op_lt (pe_ix ix_list (pv 0) (pv 4) (fun _ _ => rfl)) (pv 1) (nomark _)) (pss_one (ps_set (i := 2) sc_lesser.nd rfl (Or.inl rfl) (pe_op op_add (pv 4) pe_int))) (pss_one (ps_set (i := 3) sc_lesser.nd rfl (Or.inl rfl) (pv 4)))))))
      (pss_one (ps_ret (pv 2)))))), ?_⟩
    have ll : (IL l).length = l.length := by simp
    refine ⟨_, rfl, a, _, rfl, .inl (SqL.of ha), ?_⟩
    refine ⟨fun m σ H' => ∃ (lo hi : Nat) (v : Option V), m = hi - lo ∧ σ = [some (.ref a), some (nV e), some (nV lo), some (nV hi), v] ∧ Same H H' ∧ lo ≤ hi ∧ hi ≤ l.length ∧ (∀ i, i < lo → l.getD i 0 < e) ∧ (∀ i, hi ≤ i → i < l.length → e ≤ l.getD i 0),
      ⟨_, 0, (IL l).length, none, rfl, rfl, Same.refl H, Nat.zero_le _, Nat.le_of_eq ll, by omega, by omega⟩, ?_⟩
    rintro m σ H' ⟨lo, hi, v, rfl, rfl, s, h1, h2, h3, h4⟩
    refine ⟨_, rfl, _, rfl, _, _, rfl, rfl, _, rfl, ?_⟩
    by_cases c : lo < hi
    · refine iteDT (Int.ofNat_lt.mpr c) ?_
      refine ⟨fun σ' H2 => ∃ (lo' hi' : Nat) (v : Option V), hi' - lo' < hi - lo ∧ σ' = [some (.ref a), some (nV e), some (nV lo'), some (nV hi'), v] ∧ Same H H2 ∧ lo' ≤ hi' ∧ hi' ≤ l.length ∧ (∀ i, i < lo' → l.getD i 0 < e) ∧ (∀ i, hi' ≤ i → i < l.length → e ≤ l.getD i 0),
        fun σ' H2 ⟨lo', hi', v, hm, r⟩ => ⟨_, hm, lo', hi', v, rfl, r⟩, ?_⟩
      refine ⟨_, rfl, _, rfl, _, _, rfl, rfl, lo + hi, 2, rfl, rfl, ⟨by decide, by decide⟩, ?_⟩
      have b1 : (lo + hi) / 2 < l.length := by omega
      refine ⟨_, rfl, _, rfl, a, _, _, _, rfl, rfl, SqL.of (s _ _ ha), atI_nat (IL_get b1), _, rfl, _, _, rfl, rfl, _, rfl, ?_⟩
      by_cases d : l.getD ((lo + hi) / 2) 0 < e
      · refine iteDT (Int.ofNat_lt.mpr d) ?_
        refine ⟨_, rfl, _, _, rfl, rfl, (lo + hi) / 2 + 1, hi, _, by omega, rfl, s, by omega, h2, fun i hi' => ?_, h4⟩
        have := PtM.asc_at hs (show i ≤ (lo + hi) / 2 by omega) b1
        omega
      · refine iteDF (fun z => d (Int.ofNat_lt.mp z)) ?_
        refine ⟨_, rfl, lo, (lo + hi) / 2, _, by omega, rfl, s, by omega, by omega, h3, fun i hi' hl' => ?_⟩
        have := PtM.asc_at hs hi' hl'
        omega
    · refine iteDF (fun z => c (Int.ofNat_lt.mp z)) ?_
      refine ⟨_, rfl, k _ _ s ?_⟩
      have : lo = hi := by omega
      subst this
      rw [PtM.cntL_at h2 h3 h4]
end Pt
end
section
set_option maxRecDepth 100000
set_option maxHeartbeats 4000000
namespace Pt
open PySem PySem.Spec PyProof.Rows L2
def BlkAt (H : Hp) (as : List Addr) (bs : List (List Nat)) : Prop := as.length = bs.length ∧ ∀ i, i < bs.length → LAt H (as.getD i 0) (bs.getD i [])
abbrev RL (as : List Addr) : List V := as.map V.ref
def FloAt (H : Hp) (a : Addr) (bs : List (List Nat)) : Prop := ∃ as, H a = some (.lst (RL as)) ∧ BlkAt H as bs
def FsAt (H : Hp) (as : List Addr) (fs : List (List (List Nat))) : Prop := as.length = fs.length ∧ ∀ i, i < fs.length → FloAt H (as.getD i 0) (fs.getD i [])
theorem BlkAt.mono {H H' : Hp} {as : List Addr} {bs : List (List Nat)} (s : Same H H') (h : BlkAt H as bs) : BlkAt H' as bs := ⟨h.1, fun i hi => s _ _ (h.2 i hi)⟩
theorem FloAt.mono {H H' : Hp} {a : Addr} {bs : List (List Nat)} (s : Same H H') (h : FloAt H a bs) : FloAt H' a bs := let ⟨as, h1, h2⟩ := h; ⟨as, s _ _ h1, h2.mono s⟩
theorem FsAt.mono {H H' : Hp} {as : List Addr} {fs : List (List (List Nat))} (s : Same H H') (h : FsAt H as fs) : FsAt H' as fs := ⟨h.1, fun i hi => (h.2 i hi).mono s⟩
theorem getD_snoc {α : Type} (l : List α) (x d : α) (i : Nat) : (l ++ [x]).getD i d = if i < l.length then l.getD i d else if i = l.length then x else d := by
  simp only [List.getD_eq_getElem?_getD]
  by_cases a : i < l.length
  · rw [if_pos a, List.getElem?_append_left a]
  · rw [if_neg a, List.getElem?_append_right (by omega)]
    by_cases b : i = l.length
    · subst b; simp
    · rw [if_neg b, List.getElem?_eq_none (by simp; omega)]
      rfl
theorem BlkAt.snoc {H : Hp} {as : List Addr} {bs : List (List Nat)} {a : Addr} {b : List Nat} (h : BlkAt H as bs) (ha : LAt H a b) : BlkAt H (as ++ [a]) (bs ++ [b]) := by
  refine ⟨by simp [h.1], fun i hi => ?_⟩
  rw [getD_snoc, getD_snoc, h.1]
  by_cases c : i < bs.length
  · rw [if_pos c, if_pos c]; exact h.2 i c
  · have : i = bs.length := by simp at hi; omega
    rw [if_neg c, if_neg c, if_pos this, if_pos this]
    exact ha
theorem FsAt.snoc {H : Hp} {as : List Addr} {fs : List (List (List Nat))} {a : Addr} {b : List (List Nat)} (h : FsAt H as fs) (ha : FloAt H a b) : FsAt H (as ++ [a]) (fs ++ [b]) := by
  refine ⟨by simp [h.1], fun i hi => ?_⟩
  rw [getD_snoc, getD_snoc, h.1]
  by_cases c : i < fs.length
  · rw [if_pos c, if_pos c]; exact h.2 i c
  · have : i = fs.length := by simp at hi; omega
    rw [if_neg c, if_neg c, if_pos this, if_pos this]
    exact ha
theorem RL_get {as : List Addr} {i : Nat} (h : i < as.length) : (RL as)[i]? = some (.ref (as.getD i 0)) := by
  simp [RL, List.getElem?_map, List.getD, h]
theorem RL_at {as : List Addr} {i : Nat} {x : V} (h : (RL as)[i]? = some x) : i < as.length ∧ x = .ref (as.getD i 0) := by
  have hi : i < as.length := by
    have := (List.getElem?_eq_some_iff.mp h).1
    simpa using this
  rw [RL_get hi] at h
  exact ⟨hi, (Option.some.inj h).symm⟩
theorem RL_len (as : List Addr) : (RL as).length = as.length := by simp
theorem refs_of {xs : List V} (h : ∀ x ∈ xs, ∃ a, x = V.ref a) : ∃ as : List Addr, xs = RL as := by
  induction xs with
  | nil => exact ⟨[], rfl⟩
  | cons x xs ih =>
    obtain ⟨a, rfl⟩ := h x (by simp)
    obtain ⟨as, rfl⟩ := ih fun y hy => h y (List.mem_cons_of_mem _ hy)
    exact ⟨a :: as, rfl⟩
structure ChainB (ends : List Nat) (fs : List (List (List Nat))) : Prop where
  some_ : 0 < fs.length
  first : fs[0]? = some (ends.map fun x => [x])
  next : ∀ (k : Nat) (bs : List (List Nat)), fs[k]? = some bs → k + 1 < fs.length → 1 < bs.length ∧ fs[k + 1]? = some (PtM.up bs)
theorem ChainB.len {ends : List Nat} {fs : List (List (List Nat))} (c : ChainB ends fs) : ∀ (k : Nat) (bs : List (List Nat)), fs[k]? = some bs → bs.length + k ≤ ends.length + 1 ∧ bs.flatten.length = ends.length := by
  intro k
  induction k with
  | zero =>
    intro bs h
    rw [c.first] at h
    cases h
    refine ⟨by simp, ?_⟩
    have : ∀ l : List Nat, (l.map fun x => [x]).flatten.length = l.length := by
      intro l
      induction l with
      | nil => rfl
      | cons x l ih => simp only [List.map_cons, List.flatten_cons, List.length_append, List.length_cons, ih, List.length_nil]; omega
    exact this ends
  | succ k ih =>
    intro bs h
    have hk : k + 1 < fs.length := (List.getElem?_eq_some_iff.mp h).1
    have e : fs[k]? = some fs[k] := List.getElem?_eq_getElem (by omega)
    obtain ⟨h1, h2⟩ := c.next k _ e hk
    rw [h] at h2
    cases h2
    have := ih _ e
    rw [PtM.up_len, PtM.up_flat 0]
    omega
theorem ChainB.snoc {ends : List Nat} {fs : List (List (List Nat))} {bs : List (List Nat)} (c : ChainB ends fs) (hl : fs[fs.length - 1]? = some bs) (h1 : 1 < bs.length) : ChainB ends (fs ++ [PtM.up bs]) := by
  have h0 := c.some_
  refine ⟨by simp, by rw [List.getElem?_append_left h0]; exact c.first, fun k cs hk hlt => ?_⟩
  simp at hlt
  rw [List.getElem?_append_left (by omega)] at hk
  by_cases e : k + 1 < fs.length
  · rw [List.getElem?_append_left e]
    exact c.next k cs hk e
  · have : k = fs.length - 1 := by omega
    subst this
    rw [hl] at hk
    cases hk
    refine ⟨h1, ?_⟩
    rw [List.getElem?_append_right (by omega)]
    have : fs.length - 1 + 1 - fs.length = 0 := by omega
    rw [this]
    rfl
theorem ev_get {α : Type} : ∀ (l : List α) (i : Nat), (ev l)[i]? = l[2 * i]?
  | [], i => by simp [ev]
  | [x], 0 => rfl
  | [x], i + 1 => by simp [ev]
  | x :: y :: r, 0 => rfl
  | x :: y :: r, i + 1 => by
    show (ev r)[i]? = _
    rw [ev_get r i]
    rfl
theorem ev_length {α : Type} : ∀ l : List α, (ev l).length = (l.length + 1) / 2
  | [] => by simp [ev]
  | [x] => by simp [ev]
  | x :: y :: r => by
    simp only [ev, List.length_cons, ev_length r]
    omega
theorem up_get : ∀ (bs : List (List Nat)) (i : Nat), 2 * i + 1 < bs.length → (PtM.up bs).getD i [] = PtM.mix (bs.getD (2 * i) []) (bs.getD (2 * i + 1) [])
  | [], i, h => by simp at h
  | [b], i, h => by simp at h
  | a :: b :: r, 0, _ => rfl
  | a :: b :: r, i + 1, h => by
    show (PtM.up r).getD i [] = _
    rw [up_get r i (by simp at h; omega)]
    rfl
theorem up_last : ∀ (bs : List (List Nat)) (i : Nat), bs.length = 2 * i + 1 → (PtM.up bs).getD i [] = bs.getD (2 * i) []
  | [], i, h => by simp at h
  | [b], 0, _ => rfl
  | [b], i + 1, h => by simp at h
  | a :: b :: r, 0, h => by simp at h
  | a :: b :: r, i + 1, h => by
    show (PtM.up r).getD i [] = _
    rw [up_last r i (by simp at h; omega)]
    rfl
theorem list_ext_getDL {a b : List (List Nat)} (h : a.length = b.length) (e : ∀ i, i < a.length → a.getD i [] = b.getD i []) : a = b := by
  refine List.ext_getElem h fun i h1 h2 => ?_
  have := e i h1
  simp only [List.getD_eq_getElem?_getD, List.getElem?_eq_getElem h1, List.getElem?_eq_getElem h2, Option.getD_some] at this
  exact this
theorem flat_ge (bs : List (List Nat)) {i : Nat} (h : i + 1 < bs.length) : (bs.getD i []).length + (bs.getD (i + 1) []).length ≤ bs.flatten.length := by
  induction bs generalizing i with
  | nil => simp at h
  | cons b r ih =>
    cases i with
    | zero =>
      cases r with
      | nil => simp at h
      | cons c r => simp
    | succ i =>
      have := ih (i := i) (by simpa using h)
      simp only [List.getD_cons_succ, List.flatten_cons, List.length_append]
      omega
theorem last_RL {as : List Addr} {n : Nat} (h : as.length = n + 1) : atI (RL as) (-1) = some (.ref (as.getD n 0)) := by
  refine at_last ?_
  have e : (RL as).length - 1 = n := by simp [h]
  rw [e]
  exact RL_get (by omega)
theorem ev_RL (as : List Addr) : ev (RL as) = RL (ev as) := ev_map _ _
theorem ev_at {as : List Addr} {i : Nat} {x : V} (h : (ev (RL as))[i]? = some x) : 2 * i < as.length ∧ x = .ref (as.getD (2 * i) 0) := by
  rw [ev_get] at h
  exact RL_at h
theorem ev_at1 {as : List Addr} {i : Nat} {x : V} (h : (ev ((RL as).drop 1))[i]? = some x) : 2 * i + 1 < as.length ∧ x = .ref (as.getD (2 * i + 1) 0) := by
  rw [ev_get, List.getElem?_drop, Nat.add_comm] at h
  exact RL_at h
theorem chainB_done {t : List Nat} {fs : List (List (List Nat))} {bs : List (List Nat)} (c : ChainB t fs) (hl : fs[fs.length - 1]? = some bs) (h1 : ¬ 1 < bs.length) : PtM.Chain t fs := ⟨c.some_, c.first, c.next, fun cs h => by rw [hl] at h; cases h; omega⟩
theorem L_ne {H : Hp} {fl r : Addr} {as : List Addr} {l : List Nat} (e : H fl = some (.lst (RL as))) (h : 0 < as.length) (hr : LAt H r l) : r ≠ fl := by
  rintro rfl
  rw [LAt, e] at hr
  have e2 : RL as = IL l := HO.lst.inj (Option.some.inj hr)
  cases as with
  | nil => simp at h
  | cons x xs =>
    cases l with
    | nil => cases e2
    | cons y ys =>
      have := (List.cons.inj e2).1
      cases this
def sp_floors_of : Sp := fun vs H Q _ => ∃ (a : Addr) (t : List Nat), vs = [.ref a] ∧ LAt H a t ∧ t.length ≤ 96 ∧ Ret (fun v H' => ∃ (r : Addr) (as : List Addr) (fs : List (List (List Nat))), v = .ref r ∧ H r = none ∧ H' r = some (.lst (RL as)) ∧ FsAt H' as fs ∧ PtM.Chain t fs) H Q
abbrev sc_floors_of_N : List Str := ["ends", "floors", "blocks", "above", "end", "left", "right"]
theorem sc_floors_of : FnScope sc_floors_of_N ["ends"] (defScope s_floors_of) := ⟨rfl, rfl, rfl, by decide +kernel, rfl, by decide +kernel, by decide +kernel⟩
theorem ok_floors_of {P : Program} {w : World} {K : PySem.W.Frag} {mg : Str → Option Value} {base : Heap} (T : Tx K mg) : Fn P w K mg base "floors_of" ["ends"] (2) sp_floors_of := by
  obtain ⟨fd, F⟩ := T.D_floors_of
  refine ⟨_, fd, T.g_floors_of, F.kp, F.bindsN (fun _ _ _ _ _ _ us hl => match us, hl with | [_], _ => rfl), F.ok sc_floors_of (fun vs H Q E h => ?_) (fun cdv A outer s H vs Q E hr h => ?_)⟩
  · (obtain ⟨a, t, rfl, ha, hz, k⟩ := h)
    rfl
  · (obtain ⟨a, t, rfl, ha, hz, k⟩ := h)
    refine ⟨_, PSs.nox (pss_cons (ps_set (i := 1) sc_floors_of.nd rfl (Or.inl rfl) (pe_lst (pa_cons (pe_lc (own := [("end", 4)]) rfl sc_floors_of.nd (pi_list (pv 0)) (blkOk_by (N := sc_floors_of_N) (sc := defScope s_floors_of) (by decide +kernel)) (fun _ _ _ _ _ => (pg_name (i := 4) sc_floors_of.nd rfl (Or.inl rfl))) (fun _ _ _ _ _ => pts_nil) (fun _ _ _ _ _ => (pe_lst (pa_cons (pv 4) pa_nil)))) pa_nil)))
      (pss_cons (ps_while PassesOwn.never (pt_cmpR op_gt (pe_callB call_len_seq (by rfl) T.z_len (by decide +kernel) (pa_cons (pe_ix ix_list (pv 1) (pe_un un_neg pe_int) (fun _ _ => rfl)) pa_nil)) pe_int (nomark _))
      (pss_cons (ps_set (i := 2) sc_floors_of.nd rfl (Or.inl rfl) (pe_ix ix_list (pv 1) (pe_un un_neg pe_int) (fun _ _ => rfl)))
      (pss_cons (ps_setLc (i := 3) (own := [("left", 5), ("right", 6)]) rfl sc_floors_of.nd rfl rfl (sw_true rfl rfl rfl (by decide +kernel)) (pi_zip (by rfl) T.z_zip (pa_cons (pe_st2L (pv 2) po_none) (pa_cons (pe_st2L (pv 2) (po_some pe_int)) pa_nil))) (blkOk_by (N := sc_floors_of_N) (sc := defScope s_floors_of) (by decide +kernel)) (fun _ _ _ _ _ => (pg_tupK (K := K) (n := 2) rfl rfl (pgs_cons (pg_name (i := 5) sc_floors_of.nd rfl (Or.inl rfl) (.inr rfl)) (pgs_cons (pg_name (i := 6) sc_floors_of.nd rfl (Or.inl rfl) (.inr rfl)) pgs_nil)))) (fun _ _ _ _ _ => pts_nil) (fun _ _ _ _ _ => (pe_fn (ok_mixed T) (hr.mono (by decide)) (pa_cons (pv 5) (pa_cons (pv 6) pa_nil)))))
      (pss_cons (ps_if (pt_cmpR op_eq (pe_op op_modNat (pe_callB call_len_seq (by rfl) T.z_len (by decide +kernel) (pa_cons (pv 2) pa_nil)) pe_int) pe_int (nomark _)) (pss_one (ps_expr (pe_bm PySem.F.plainAttrs_list PySem.F.slot_list_append PySem.F.type_list_append mt_append (pv 3) (pa_cons (pe_callTy call_list_of (by rfl) T.z_list (by decide +kernel) (pa_cons (pe_ix ix_list (pv 2) (pe_un un_neg pe_int) (fun _ _ => rfl)) pa_nil)) pa_nil)))) pss_nil)
      (pss_one (ps_expr (pe_bm PySem.F.plainAttrs_list PySem.F.slot_list_append PySem.F.type_list_append mt_append (pv 1) (pa_cons (pv 3) pa_nil))))))))
      (pss_one (ps_ret (pv 1))))), ?_⟩
    have lt : (IL t).length = t.length := by simp
    refine ⟨_, rfl, a, rfl, ⟨_, SqL.of ha⟩, fun D hD => lcP (walk_list (xs := IL t)) (by rw [lt]; omega) hD (fun i y H' => ∃ r, y = .ref r ∧ r ≠ D ∧ LAt H' r [t.getD i 0]) (fun i y H1 H2 s ⟨r, e, n, h⟩ => ⟨r, e, n, s _ _ h⟩)
      (fun i y H1 acc o hD' ⟨r, e, n, h⟩ => ⟨r, e, n, by rw [LAt, upd_ne n]; exact h⟩) (fun H1 s => SqL.of (s _ _ ha)) ?_ ?_⟩
    · rintro i x H1 H2 Q' hi s ⟨acc, hacc⟩ ⟨rfl, hx⟩ k'
      obtain ⟨hb, rfl⟩ := IL_at hx
      refine ⟨rfl, _, rfl, (by show 1 ≤ sizeLine; decide), fun p hp => ?_⟩
      exact k' _ _ (same_new hp) ⟨p, rfl, (ne_of_none hacc hp).symm, upd_same⟩
    · intro H1 acc s1 hacc hlen hP
      obtain ⟨as, rfl⟩ : ∃ as : List Addr, acc = RL as := refs_of fun x hx => by
        obtain ⟨i, hi⟩ := List.mem_iff_getElem?.mp hx
        obtain ⟨r, e, _⟩ := hP i x hi
        exact ⟨r, e⟩
      have las : as.length = t.length := by
        have : (RL as).length = as.length := by simp
        omega
      have hB : BlkAt H1 as (t.map fun x => [x]) := by
        refine ⟨by simp [las], fun i hi => ?_⟩
        have hi' : i < t.length := by simpa using hi
        obtain ⟨r, e, _, h⟩ := hP i _ (RL_get (by omega))
        cases e
        simpa [List.getD, hi'] using h
      refine ⟨(by show 1 ≤ sizeLine; decide), fun fl hfl => ?_⟩
      have s2 := same_upd s1 (o := .lst [.ref D]) (s1.free hfl)
      have hF0 : FloAt (hide fl (upd H1 fl (.lst [.ref D]))) D (t.map fun x => [x]) := by
        rw [hide_upd]
        exact ⟨as, hide_of hacc (ne_of_none hacc hfl), hB.1, fun i hi => hide_of (hB.2 i hi) (ne_of_none (hB.2 i hi) hfl)⟩
      refine ⟨fun m σ H' => ∃ (as : List Addr) (fs : List (List (List Nat))) (bs : List (List Nat)) (v w : Option V), m = bs.length ∧ fs[fs.length - 1]? = some bs ∧ σ = [some (.ref a), some (.ref fl), v, w, none, none, none] ∧ Same H H' ∧ H' fl = some (.lst (RL as)) ∧ FsAt (hide fl H') as fs ∧ ChainB t fs,
        ⟨_, [D], [t.map fun x => [x]], t.map fun x => [x], none, none, rfl, rfl, rfl, s2, upd_same, ⟨rfl, fun i hi => ?_⟩, ⟨by simp, rfl, fun k bs hk hlt => by simp at hlt⟩⟩, ?_⟩
      · have : i = 0 := by simp at hi; omega
        subst this
        exact hF0
      have hfl0 : H fl = none := s1.free hfl
      rintro m σ H' ⟨as, fs, bs, v, w, rfl, hbs, rfl, s, hfs, hF, hC⟩
      have h0 := hC.some_
      obtain ⟨n, hn⟩ : ∃ n, fs.length = n + 1 := ⟨fs.length - 1, by omega⟩
      have hbs' : fs[n]? = some bs := by rw [← hbs]; congr 1; omega
      have hna : as.length = n + 1 := by rw [hF.1, hn]
      have egb : fs.getD n [] = bs := by simp [List.getD, hbs']
      obtain ⟨cs, hcs, hBk⟩ := hF.2 n (by omega)
      rw [egb] at hBk
      generalize hbA : as.getD n 0 = b at hcs
      obtain ⟨hcs, nb⟩ := of_hide hcs
      have lcs : (RL cs).length = bs.length := by simp [hBk.1]
      have hnb : atI (RL as) (-1) = some (.ref b) := by rw [← hbA]; exact last_RL hna
      refine ⟨_, rfl, _, rfl, fl, _, _, _, rfl, rfl, SqL.of hfs, hnb, b, _, rfl, .inl (SqL.of hcs), _, _, rfl, rfl, _, rfl, ?_⟩
      by_cases c : 1 < bs.length
      · refine iteDT (by rw [lcs]; exact Int.ofNat_lt.mpr c) ?_
        refine ⟨fun σ' H2 => ∃ (as : List Addr) (fs : List (List (List Nat))) (cs : List (List Nat)) (v w : Option V), cs.length < bs.length ∧ fs[fs.length - 1]? = some cs ∧ σ' = [some (.ref a), some (.ref fl), v, w, none, none, none] ∧ Same H H2 ∧ H2 fl = some (.lst (RL as)) ∧ FsAt (hide fl H2) as fs ∧ ChainB t fs,
          fun σ' H2 ⟨as, fs, cs, v, w, hm, r⟩ => ⟨_, hm, as, fs, cs, v, w, rfl, r⟩, ?_⟩
        refine ⟨_, rfl, _, rfl, fl, _, _, _, rfl, rfl, SqL.of hfs, hnb, ?_⟩
        obtain ⟨hlen2, hflat⟩ := hC.len n bs hbs'
        have l96 : bs.length ≤ 97 := by omega
        -- blocks[::2], blocks[1::2]
        refine ⟨_, rfl, b, _, 0, rfl, SqL.of hcs, rfl, fun p hp => ?_⟩
        have t1 := same_new (o := .lst (ev ((RL cs).drop 0))) hp
        refine ⟨_, rfl, 1, rfl, b, _, _, rfl, SqL.of (t1 _ _ hcs), rfl, fun q hq => ?_⟩
        have e1 : min 1 (RL cs).length = 1 := by rw [lcs]; omega
        rw [e1]
        have t2 := same_upd t1 (o := .lst (ev ((RL cs).drop 1))) (t1.free hq)
        have hpl : (upd (upd H' p (.lst (ev ((RL cs).drop 0)))) q (.lst (ev ((RL cs).drop 1)))) p = some (.lst (ev (RL cs))) := by
          have : p ≠ q := fun e => by subst e; rw [upd_same] at hq; cases hq
          rw [upd_ne this, upd_same]; rfl
        have hql : (upd (upd H' p (.lst (ev ((RL cs).drop 0)))) q (.lst (ev ((RL cs).drop 1)))) q = some (.lst (ev ((RL cs).drop 1))) := upd_same
        have lz : bs.length / 2 = min (ev (RL cs)).length (ev ((RL cs).drop 1)).length := by
          rw [ev_length, ev_length, List.length_drop, lcs]
          omega
        refine ⟨p, q, _, _, rfl, SqL.of hpl, SqL.of hql, fun D hD => lcP (walk_zip lz) (by omega) hD (fun i y H' => ∃ r, y = .ref r ∧ r ≠ D ∧ LAt H' r (PtM.mix (bs.getD (2 * i) []) (bs.getD (2 * i + 1) []))) (fun i y H1 H2 s ⟨r, e, n, h⟩ => ⟨r, e, n, s _ _ h⟩)
          (fun i y H1 acc o hD' ⟨r, e, n, h⟩ => ⟨r, e, n, by rw [LAt, upd_ne n]; exact h⟩) (fun H1 s => ⟨SqL.of (s _ _ hpl), SqL.of (s _ _ hql)⟩) ?_ ?_⟩
        · rintro i x H3 H4 Q' hi s3 ⟨acc, hacc⟩ ⟨T, x1, x2, rfl, hT, rfl, g1, g2⟩ k'
          obtain ⟨b1, rfl⟩ := ev_at g1
          obtain ⟨b2, rfl⟩ := ev_at1 g2
          have s4 := same_upd (t2.trans s3) (o := .tup [.ref (cs.getD (2 * i) 0), .ref (cs.getD (2 * i + 1) 0)]) ((t2.trans s3).free hT)
          have m1 := hBk.2 (2 * i) (by rw [← hBk.1]; exact b1)
          have m2 := hBk.2 (2 * i + 1) (by rw [← hBk.1]; exact b2)
          have fg := flat_ge bs (i := 2 * i) (by rw [← hBk.1]; exact b2)
          refine ⟨T, _, rfl, SqT.of upd_same, rfl, _, _, rfl, _, _, rfl, rfl, rfl, _, rfl, _, rfl, _, _, _, _, rfl, s4 _ _ (of_hide m1).1, s4 _ _ (of_hide m2).1, by omega, ?_⟩
          rintro v H5 s5 ⟨r, rfl, hr, hm⟩
          refine k' _ _ ((same_new hT).trans s5) ⟨r, rfl, ?_, hm⟩
          intro e
          subst e
          rw [upd_ne (ne_of_none hacc hT), hacc] at hr
          cases hr
        · intro H3 acc s3 hacc hlen hP
          obtain ⟨ds, rfl⟩ : ∃ as : List Addr, acc = RL as := refs_of fun x hx => by
            obtain ⟨i, hi⟩ := List.mem_iff_getElem?.mp hx
            obtain ⟨r, e, _⟩ := hP i x hi
            exact ⟨r, e⟩
          have lds : ds.length = bs.length / 2 := by
            have : (RL ds).length = ds.length := by simp
            omega
          have s4 : Same H' H3 := t2.trans s3
          have hDfl : D ≠ fl := fun e => by
            subst e
            rw [t2 _ _ hfs] at hD
            cases hD
          have hcs3 := s4 _ _ hcs
          have hfs3 := s4 _ _ hfs
          have hne : ∀ {H4 : Hp} {r : Addr} {l : List Nat}, H4 fl = some (.lst (RL as)) → LAt H4 r l → r ≠ fl := fun e h => L_ne e (by omega) h
          have fin : ∀ (E : Ends) (ds : List Addr) (H4 : Hp), Same H' H4 → H4 D = some (.lst (RL ds)) → BlkAt (hide fl H4) ds (PtM.up bs) → (∀ σ2 H2, (∃ (as : List Addr) (fs : List (List (List Nat))) (cs : List (List Nat)) (v w : Option V), cs.length < bs.length ∧ fs[fs.length - 1]? = some cs ∧ σ2 = [some (.ref a), some (.ref fl), v, w, none, none, none] ∧ Same H H2 ∧ H2 fl = some (.lst (RL as)) ∧ FsAt (hide fl H2) as fs ∧ ChainB t fs) → E.nx σ2 H2) →
              tDrop (tBM K "list" rAppend (tVar 1) (tCons (tVar 3) tNil)) E [some (.ref a), some (.ref fl), some (.ref b), some (.ref D), none, none, none] H4 := by
            intro E ds H4 s5 hD4 hB hE
            have hfs4 := s5 _ _ hfs
            refine ⟨_, rfl, .inl ⟨rfl, _, SqL.of hfs4⟩, _, rfl, fl, _, _, rfl, rfl, hfs4, bigS _ (by rw [RL_len]; omega), ?_⟩
            refine hE _ _ ⟨as ++ [D], fs ++ [PtM.up bs], PtM.up bs, _, _, ?_, by simp, rfl, same_upd (s.trans s5) hfl0, ?_, ?_, hC.snoc hbs c⟩
            · rw [PtM.up_len]; omega
            · rw [upd_same]; simp [RL]
            · rw [hide_upd]
              exact (hF.mono (hide_same s5)).snoc ⟨ds, hide_of hD4 hDfl, hB⟩
          have hitem : ∀ i, i < ds.length → ∃ r, ds.getD i 0 = r ∧ r ≠ D ∧ LAt H3 r ((PtM.up bs).getD i []) := fun i hi => by
            obtain ⟨r, e, n, h⟩ := hP i _ (RL_get hi)
            cases e
            rw [up_get bs i (by omega)]
            exact ⟨_, rfl, n, h⟩
          refine ⟨_, rfl, b, _, rfl, .inl (SqL.of hcs3), _, 2, rfl, rfl, by decide, rfl, _, rfl, ?_⟩
          have edec : (V.int (((RL cs).length % 2 : Nat) : Int) = V.int 1) ↔ bs.length % 2 = 1 := by
            rw [lcs]
            constructor
            · intro h
              have := V.int.inj h
              omega
            · intro h
              rw [h]; rfl
          by_cases d : bs.length % 2 = 1
          · refine iteDT (edec.mpr d) ?_
            have hlast : atI (RL cs) (-1) = some (.ref (cs.getD (bs.length - 1) 0)) := last_RL (by rw [hBk.1]; omega)
            have hbl := (of_hide (hBk.2 (bs.length - 1) (by omega))).1
            refine ⟨_, rfl, .inl ⟨rfl, _, SqL.of hacc⟩, _, rfl, _, rfl, b, _, _, _, rfl, rfl, SqL.of hcs3, hlast, _, _, rfl, .inl (SqL.of (s4 _ _ hbl)), fun r hr => ?_⟩
            have hrD : D ≠ r := ne_of_none hacc hr
            have hrf : fl ≠ r := ne_of_none hfs3 hr
            refine ⟨D, _, _, rfl, rfl, (upd_ne hrD).trans hacc, bigS _ (by rw [RL_len]; omega), ?_⟩
            refine fin _ (ds ++ [r]) _ (same_upd (s4.trans (same_new hr)) (t2.free hD)) (by rw [upd_same]; simp [RL]) ?_ fun σ2 H2 h => h
            have lup : (PtM.up bs).length = ds.length + 1 := by rw [PtM.up_len]; omega
            refine ⟨by simp; omega, fun i hi => ?_⟩
            rw [getD_snoc]
            by_cases e : i < ds.length
            · rw [if_pos e]
              obtain ⟨r', e1, e2, e3⟩ := hitem i e
              rw [e1]
              refine hide_of ?_ (hne hfs3 e3)
              rw [upd_ne e2, upd_ne (ne_of_none e3 hr)]
              exact e3
            · have e' : i = ds.length := by omega
              rw [if_neg e, if_pos e']
              refine hide_of ?_ hrf.symm
              rw [upd_ne hrD.symm, upd_same, e', up_last bs ds.length (by omega)]
              have : 2 * ds.length = bs.length - 1 := by omega
              rw [this]
          · refine iteDF (fun z => d (edec.mp z)) ?_
            refine fin _ ds _ s4 hacc ?_ fun σ2 H2 h => h
            have lup : (PtM.up bs).length = ds.length := by rw [PtM.up_len]; omega
            refine ⟨by omega, fun i hi => ?_⟩
            obtain ⟨r', e1, e2, e3⟩ := hitem i (by omega)
            rw [e1]
            exact hide_of e3 (hne hfs3 e3)
      · refine iteDF (by rw [lcs]; exact fun z => c (Int.ofNat_lt.mp z)) ?_
        refine ⟨_, rfl, k _ _ s ⟨fl, as, fs, rfl, hfl0, hfs, hF.mono unhide, chainB_done hC hbs c⟩⟩
end Pt
end
section
set_option maxRecDepth 100000
set_option maxHeartbeats 4000000
namespace Pt
open PySem PySem.Spec PyProof.Rows L2
theorem putF_nil {f : Str} {v : V} : putF f v [] = [(f, v)] := rfl
theorem putF_ne {f g : Str} {v x : V} {r : List (Str × V)} (h : g ≠ f) : putF f v ((g, x) :: r) = (g, x) :: putF f v r := by rw [putF, if_neg h]
theorem putF_eq {f : Str} {v x : V} {r : List (Str × V)} : putF f v ((f, x) :: r) = (f, v) :: r := by rw [putF, if_pos rfl]
theorem nV_inj {a b : Nat} (h : V.int (a : Int) = V.int (b : Int)) : a = b := by have := V.int.inj h; omega
def TallyAt (K : PySem.W.Frag) (H : Hp) (x : Addr) (t : List Nat) : Prop :=
  ∃ (dx fl : Addr) (as : List Addr) (fs : List (List (List Nat))), H x = some (.ins (He.ga K "Tally") dx [("many", nV t.length), ("floors", .ref fl)]) ∧ H fl = some (.lst (RL as)) ∧ FsAt H as fs ∧ PtM.Chain t fs
theorem TallyAt.mono {K : PySem.W.Frag} {H H' : Hp} {x : Addr} {t : List Nat} (s : Same H H') (h : TallyAt K H x t) : TallyAt K H' x t :=
  let ⟨dx, fl, as, fs, h1, h2, h3, h4⟩ := h; ⟨dx, fl, as, fs, s _ _ h1, s _ _ h2, h3.mono s, h4⟩
theorem hide_ne {x r : Addr} {H : Hp} {o o' : HO} (e : H x = some o) (h : H r = some o') (n : o ≠ o') : hide x H r = some o' := hide_of h (fun z => by subst z; rw [e] at h; exact n (Option.some.inj h))
theorem BlkAt.hide {x C dx : Addr} {fs : List (Str × V)} {H : Hp} {as : List Addr} {bs : List (List Nat)} (e : H x = some (.ins C dx fs)) (h : BlkAt H as bs) : BlkAt (hide x H) as bs := ⟨h.1, fun i hi => hide_ne e (h.2 i hi) (fun z => by cases z)⟩
theorem FloAt.hide {x C dx : Addr} {fs : List (Str × V)} {H : Hp} {a : Addr} {bs : List (List Nat)} (e : H x = some (.ins C dx fs)) (h : FloAt H a bs) : FloAt (hide x H) a bs :=
  let ⟨as, h1, h2⟩ := h; ⟨as, hide_ne e h1 (fun z => by cases z), h2.hide e⟩
theorem FsAt.hide {x C dx : Addr} {fl : List (Str × V)} {H : Hp} {as : List Addr} {fs : List (List (List Nat))} (e : H x = some (.ins C dx fl)) (h : FsAt H as fs) : FsAt (hide x H) as fs := ⟨h.1, fun i hi => (h.2 i hi).hide e⟩
theorem same_over {x : Addr} {H : Hp} {o : HO} : Same (hide x H) (upd H x o) := fun b u e => by
  rw [upd_ne (of_hide e).2]
  exact (of_hide e).1
def sp_Tally_init (K : PySem.W.Frag) : Sp := fun vs H Q _ => ∃ (x a dx : Addr) (t : List Nat), vs = [.ref x, .ref a] ∧ H x = some (.ins (He.ga K "Tally") dx []) ∧ LAt (hide x H) a t ∧ PtM.Turn t ∧ t.length ≤ 96 ∧ ∀ H', Same (hide x H) H' → TallyAt K H' x t → Q .non H'
abbrev sc_Tally_init_N : List Str := ["self", "turning"]
theorem sc_Tally_init : FnScope sc_Tally_init_N ["self", "turning"] (defScope s_Tally_init) := ⟨rfl, rfl, rfl, by decide +kernel, rfl, by decide +kernel, by decide +kernel⟩
theorem fn_Tally_init {P : Program} {w : World} {K : PySem.W.Frag} {mg : Str → Option Value} {base : Heap} (T : Tx K mg) {f : Addr} {fd : FuncData} (F : FunD K "__init__" "Tally.__init__" (defArgs s_Tally_init) (defBody s_Tally_init) (defScope s_Tally_init) [] [] f fd) : Binds K fd ["self", "turning"] [] ∧ FnOk P w K mg base CX0 (5) f fd ["self", "turning"] (sp_Tally_init K) := by
  refine ⟨F.bindsN (fun _ _ _ _ _ _ us hl => match us, hl with | [_, _], _ => rfl), F.ok sc_Tally_init (fun vs H Q E h => ?_) (fun cdv A outer s H vs Q E hr h => ?_)⟩
  · (obtain ⟨x, a, dx, t, rfl, hx, ha, ht, hz, k⟩ := h)
    rfl
  · (obtain ⟨x, a, dx, t, rfl, hx, ha, ht, hz, k⟩ := h)
    refine ⟨_, PSs.nox (pss_cons (ps_expr (pe_fn (ok_need_turning T) (hr.mono (by decide)) (pa_cons (pv 1) pa_nil)))
      (pss_cons (ps_fld (pv 0) (pe_callB call_len_seq (by rfl) T.z_len (by decide +kernel) (pa_cons (pv 1) pa_nil)) rfl)
      (pss_one (ps_fld (pv 0) (pe_fn (ok_floors_of T) (hr.mono (by decide)) (pa_cons (pv 1) pa_nil)) rfl)))), ?_⟩
    have lt : (IL t).length = t.length := by simp
    refine ⟨_, rfl, a, t, rfl, (of_hide ha).1, ht, hz, fun v H1 s1 e => ?_⟩
    have s1' : Same (hide x H) H1 := unhide.trans s1
    refine ⟨_, rfl, a, _, rfl, .inl (SqL.of (s1' _ _ ha)), _, rfl, x, _, dx, _, rfl, s1 _ _ hx, T.cl_Tally, T.na_Tally_many, by decide, ?_⟩
    have hx0 : hide x H x = none := by unfold hide; rw [if_pos rfl]
    have s2 := same_upd s1' (o := .ins (He.ga K "Tally") dx (putF "many" (.int ((IL t).length : Nat)) [])) hx0
    refine ⟨_, rfl, a, t, rfl, s2 _ _ ha, hz, ?_⟩
    rintro v2 H2 s3 ⟨r, as, fs, rfl, hr, hrf, hF, hC⟩
    refine ⟨_, rfl, x, _, dx, _, rfl, s3 _ _ upd_same, T.cl_Tally, T.na_Tally_floors, by simp [putF], ?_⟩
    have s4 : Same (hide x H) (upd H2 x (.ins (He.ga K "Tally") dx (putF "floors" (.ref r) (putF "many" (.int ((IL t).length : Nat)) [])))) := same_upd (s2.trans s3) hx0
    have hH2 : H2 x = some (.ins (He.ga K "Tally") dx (putF "many" (.int ((IL t).length : Nat)) [])) := s3 _ _ upd_same
    refine k _ s4 ⟨dx, r, as, fs, ?_, ?_, (hF.hide hH2).mono same_over, hC⟩
    · rw [upd_same, putF_nil, putF_ne (by decide), putF_nil]
      simp [nV]
    · rw [upd_ne (fun e => by subst e; rw [hH2] at hrf; cases hrf)]
      exact hrf
theorem new_Tally {P : Program} {w : World} {K : PySem.W.Frag} {mg : Str → Option Value} {base : Heap} (T : Tx K mg) : Nw P w K mg base "Tally" (He.ga K "Tally") ["self", "turning"] (5) (sp_Tally_init K) := by
  obtain ⟨fd, F⟩ := T.D_Tally_init
  obtain ⟨b, G⟩ := fn_Tally_init (P := P) (w := w) (base := base) T F
  exact ⟨_, fd, T.g_Tally, T.mk_Tally, b, G⟩
theorem flat_mem (bs : List (List Nat)) {i : Nat} (h : i < bs.length) : (bs.getD i []).length ≤ bs.flatten.length := by
  induction bs generalizing i with
  | nil => simp at h
  | cons b r ih =>
    cases i with
    | zero => simp
    | succ i =>
      have := ih (i := i) (by simpa using h)
      simp only [List.getD_cons_succ, List.flatten_cons, List.length_append]
      omega
def sp_Tally_from_on (K : PySem.W.Frag) : Sp := fun vs H Q _ => ∃ (x : Addr) (t : List Nat) (b e : Nat), vs = [.ref x, nV b, nV e] ∧ TallyAt K H x t ∧ t.length ≤ 96 ∧ Ret (fun v _ => v = nV (PtM.cnt t b e)) H Q
abbrev sc_Tally_from_on_N : List Str := ["self", "begin", "end", "total", "at", "floor"]
theorem sc_Tally_from_on : FnScope sc_Tally_from_on_N ["self", "begin", "end"] (defScope s_Tally_from_on) := ⟨rfl, rfl, rfl, by decide +kernel, rfl, by decide +kernel, by decide +kernel⟩
theorem fn_Tally_from_on {P : Program} {w : World} {K : PySem.W.Frag} {mg : Str → Option Value} {base : Heap} (T : Tx K mg) {f : Addr} {fd : FuncData} (F : FunD K "from_on" "Tally.from_on" (defArgs s_Tally_from_on) (defBody s_Tally_from_on) (defScope s_Tally_from_on) [] [] f fd) : Binds K fd ["self", "begin", "end"] [] ∧ FnOk P w K mg base CX0 (2) f fd ["self", "begin", "end"] (sp_Tally_from_on K) := by
  refine ⟨F.bindsN (fun _ _ _ _ _ _ us hl => match us, hl with | [_, _, _], _ => rfl), F.ok sc_Tally_from_on (fun vs H Q E h => ?_) (fun cdv A outer s H vs Q E hr h => ?_)⟩
  · (obtain ⟨x, t, b, e, rfl, hx, hz, k⟩ := h)
    rfl
  · (obtain ⟨x, t, b, e, rfl, hx, hz, k⟩ := h)
    refine ⟨_, PSs.nox (pss_cons (ps_set (i := 3) sc_Tally_from_on.nd rfl (Or.inl rfl) pe_int)
      (pss_cons (ps_set (i := 4) sc_Tally_from_on.nd rfl (Or.inl rfl) (pv 1))
      (pss_cons (ps_for PassesOwn.never rfl (pi_list (pe_fld (pv 0) rfl)) (pg_name (i := 5) sc_Tally_from_on.nd rfl (Or.inl rfl))
      (pss_cons (ps_if (pt_cmpR op_ge (pv 4) (pe_callB call_len_seq (by rfl) T.z_len (by decide +kernel) (pa_cons (pv 5) pa_nil)) (nomark _)) (pss_one (ps_ret (pv 3))) pss_nil)
      (pss_cons (ps_if (PW.pt (pw_or (pt_cmpR op_eq (pe_op op_modNat (pv 4) pe_int) pe_int (nomark _)) (pw_or1 (pt_cmpR op_eq (pe_callB call_len_seq (by rfl) T.z_len (by decide +kernel) (pa_cons (pv 5) pa_nil)) pe_int (nomark _))))) (pss_cons (ps_aug (i := 3) sc_Tally_from_on.nd rfl (Or.inl rfl) (pe_fn (ok_lesser T) (hr.mono (by decide)) (pa_cons (pe_ix ix_list (pv 5) (pv 4) (fun _ _ => rfl)) (pa_cons (pv 2) pa_nil))) ip_add)
      (pss_one (ps_aug (i := 4) sc_Tally_from_on.nd rfl (Or.inl rfl) pe_int ip_add))) pss_nil)
      (pss_one (ps_set (i := 4) sc_Tally_from_on.nd rfl (Or.inl rfl) (pe_op op_fdivNat (pv 4) pe_int))))))
      (pss_one (ps_ret (pv 3)))))), ?_⟩
    obtain ⟨dx, fl, as, fs, h1, h2, h3, h4⟩ := id hx
    have h4' : ChainB t fs := ⟨h4.some_, h4.first, h4.next⟩
    refine ⟨_, rfl, _, rfl, x, _, dx, _, _, rfl, h1, T.cl_Tally, T.na_Tally_floors, rfl, fl, rfl, ⟨_, SqL.of h2⟩, for_list (K := K) (a := fl) (xs := RL as) (fun i σ H' => ∃ (tot at_ : Nat) (v : Option V), σ = [some (.ref x), some (nV b), some (nV e), some (nV tot), some (nV at_), v] ∧ Same H H' ∧
        (i < fs.length → tot + PtM.cntB ((fs.getD i []).drop at_) e = PtM.cnt t b e) ∧ (fs.length ≤ i → tot = PtM.cnt t b e))
      ⟨0, b, none, rfl, Same.refl H, ?_, ?_⟩ (fun i σ H' _ ⟨_, _, _, _, s, _⟩ => SqL.of (s _ _ h2)) ?_ ?_⟩
    · intro h
      have : fs.getD 0 [] = t.map fun x => [x] := by simp [List.getD, h4.first]
      rw [this, PtM.cnt_cntB, Nat.zero_add]
    · intro h
      have := h4.some_
      omega
    · rintro i y σ H1 hi ⟨tot, at_, v, rfl, s, g1, g2⟩
      obtain ⟨hb, rfl⟩ := RL_at hi
      have hif : i < fs.length := by rw [← h3.1]; exact hb
      have efs : fs[i]? = some (fs.getD i []) := by simp [List.getD, hif]
      generalize fs.getD i [] = bs at efs g1
      obtain ⟨hl1, hfl⟩ := h4'.len i bs efs
      obtain ⟨cs, hcs, hBk⟩ := h3.2 i hif
      have ebs : fs.getD i [] = bs := by simp [List.getD, efs]
      rw [ebs] at hBk
      have lcs : (RL cs).length = bs.length := by simp [hBk.1]
      have g1 := g1 hif
      refine ⟨_, rfl, _, rfl, _, _, rfl, .inl (SqL.of (s _ _ hcs)), _, _, rfl, rfl, _, rfl, ?_⟩
      by_cases c : bs.length ≤ at_
      · refine iteDT (by rw [lcs]; exact Int.ofNat_le.mpr c) ⟨_, rfl, k _ _ s ?_⟩
        rw [PtM.cntB_past c] at g1
        rw [← g1]
        rfl
      · refine iteDF (fun z => c (by rw [lcs] at z; exact Int.ofNat_le.mp z)) ?_
        have hat : at_ < bs.length := by omega
        have hblk := hBk.2 at_ hat
        have hasc : PtM.Asc (bs.getD at_ []) := by
          refine PtM.chain_asc h4 i bs efs _ ?_
          have : at_ < bs.length := by omega
          have e1 : bs.getD at_ [] = bs[at_] := by simp [List.getD, this]
          rw [e1]
          exact List.getElem_mem this
        have hlen : (bs.getD at_ []).length ≤ 96 := by
          have := flat_mem bs (i := at_) (by omega)
          omega
        have nxt : ∀ (at' : Nat) {tot' : Nat}, (at' % 2 = 0 ∨ bs.length = 1 ∧ at' = 1) → tot' + PtM.cntB (bs.drop at') e = PtM.cnt t b e → (i + 1 < fs.length → tot' + PtM.cntB ((fs.getD (i + 1) []).drop (at' / 2)) e = PtM.cnt t b e) ∧ (fs.length ≤ i + 1 → at_ < at' → tot' = PtM.cnt t b e) := by
          intro at' tot' ho hq
          constructor
          · intro h
            obtain ⟨q1, q2⟩ := h4.next i bs efs h
            have e1 : fs.getD (i + 1) [] = PtM.up bs := by simp [List.getD, q2]
            rw [e1, PtM.cntB_half bs (ho.resolve_right fun z => by omega) e]
            exact hq
          · intro h hlt
            have q := h4.last bs (by rw [← efs]; congr 1; omega)
            rw [PtM.cntB_past (by omega)] at hq
            exact hq
        have hcl : cs.length = bs.length := hBk.1
        have g2' : tot + PtM.cntL (bs.getD at_ []) e + PtM.cntB (bs.drop (at_ + 1)) e = PtM.cnt t b e := by
          rw [← g1, PtM.cntB_step bs hat e]
          omega
        by_cases odd : at_ % 2 = 1
        · refine ⟨_, rfl, at_, 2, rfl, rfl, by decide, rfl, _, rfl, iteDT (by rw [odd]; rfl) ?_⟩
          refine ⟨_, rfl, _, rfl, _, rfl, _, _, _, _, rfl, rfl, SqL.of (s _ _ hcs), atI_nat (RL_get (hcl ▸ hat)), _, rfl, _, _, _, rfl, s _ _ hblk, hasc, Nat.le_trans hlen (by decide), ?_⟩
          rintro v2 H2 s2 rfl
          refine ⟨_, _, rfl, rfl, _, rfl, _, _, rfl, rfl, _, rfl, at_ + 1, 2, rfl, rfl, ⟨by decide, by decide⟩, ?_⟩
          exact ⟨tot + PtM.cntL (bs.getD at_ []) e, (at_ + 1) / 2, _, rfl, s.trans s2, (nxt (at_ + 1) (.inl (by omega)) g2').1, fun h => (nxt (at_ + 1) (.inl (by omega)) g2').2 h (Nat.lt_succ_self _)⟩
        · refine ⟨_, rfl, at_, 2, rfl, rfl, by decide, rfl, _, rfl, iteDF (fun z => odd (nV_inj z)) ?_⟩
          by_cases one : bs.length = 1
          · refine ⟨_, rfl, _, _, rfl, .inl (SqL.of (s _ _ hcs)), rfl, _, rfl, iteDT (by rw [lcs, one]; rfl) ?_⟩
            refine ⟨_, rfl, _, rfl, _, rfl, _, _, _, _, rfl, rfl, SqL.of (s _ _ hcs), atI_nat (RL_get (hcl ▸ hat)), _, rfl, _, _, _, rfl, s _ _ hblk, hasc, Nat.le_trans hlen (by decide), ?_⟩
            rintro v2 H2 s2 rfl
            refine ⟨_, _, rfl, rfl, _, rfl, _, _, rfl, rfl, _, rfl, at_ + 1, 2, rfl, rfl, ⟨by decide, by decide⟩, ?_⟩
            exact ⟨tot + PtM.cntL (bs.getD at_ []) e, (at_ + 1) / 2, _, rfl, s.trans s2, (nxt (at_ + 1) (.inr ⟨one, by omega⟩) g2').1, fun h => (nxt (at_ + 1) (.inr ⟨one, by omega⟩) g2').2 h (Nat.lt_succ_self _)⟩
          · refine ⟨_, rfl, _, _, rfl, .inl (SqL.of (s _ _ hcs)), rfl, _, rfl, iteDF (fun z => one (by rw [lcs] at z; exact nV_inj z)) ?_⟩
            have ev0 : at_ % 2 = 0 := by omega
            refine ⟨_, rfl, at_, 2, rfl, rfl, ⟨by decide, by decide⟩, ?_⟩
            exact ⟨tot, at_ / 2, _, rfl, s, (nxt at_ (.inl ev0) g1).1, fun h => absurd (h4.last bs (by rw [← efs]; congr 1; omega)) (by omega)⟩
    · rintro σ H1 ⟨tot, at_, v, rfl, s, g1, g2⟩
      refine ⟨_, rfl, k _ _ s ?_⟩
      have := g2 (by rw [RL_len]; exact Nat.le_of_eq h3.1.symm)
      rw [this]
theorem ok_Tally_from_on {P : Program} {w : World} {K : PySem.W.Frag} {mg : Str → Option Value} {base : Heap} (T : Tx K mg) : ∀ C, C = He.ga K "Tally" → Mt P w K mg base C "from_on" ["self", "begin", "end"] (2) (sp_Tally_from_on K) := by
  intro C hC
  subst hC
  obtain ⟨fd, F⟩ := T.D_Tally_from_on
  obtain ⟨b, G⟩ := fn_Tally_from_on (P := P) (w := w) (base := base) T F
  exact ⟨_, fd, T.cl_Tally, T.m_Tally_from_on, b, G⟩
def sp_Tally_below (K : PySem.W.Frag) : Sp := fun vs H Q _ => ∃ (x : Addr) (t : List Nat) (b e : Nat), vs = [.ref x, nV b, nV e] ∧ TallyAt K H x t ∧ t.length ≤ 96 ∧ b ≤ t.length ∧ e ≤ t.length ∧ Ret (fun v _ => v = nV (PtM.cnt t b e)) H Q
abbrev sc_Tally_below_N : List Str := ["self", "begin", "end"]
theorem sc_Tally_below : FnScope sc_Tally_below_N ["self", "begin", "end"] (defScope s_Tally_below) := ⟨rfl, rfl, rfl, by decide +kernel, rfl, by decide +kernel, by decide +kernel⟩
theorem fn_Tally_below {P : Program} {w : World} {K : PySem.W.Frag} {mg : Str → Option Value} {base : Heap} (T : Tx K mg) {f : Addr} {fd : FuncData} (F : FunD K "below" "Tally.below" (defArgs s_Tally_below) (defBody s_Tally_below) (defScope s_Tally_below) [] [] f fd) : Binds K fd ["self", "begin", "end"] [] ∧ FnOk P w K mg base CX0 (4) f fd ["self", "begin", "end"] (sp_Tally_below K) := by
  refine ⟨F.bindsN (fun _ _ _ _ _ _ us hl => match us, hl with | [_, _, _], _ => rfl), F.ok sc_Tally_below (fun vs H Q E h => ?_) (fun cdv A outer s H vs Q E hr h => ?_)⟩
  · (obtain ⟨x, t, b, e, rfl, hx, hz, hb, he, k⟩ := h)
    rfl
  · (obtain ⟨x, t, b, e, rfl, hx, hz, hb, he, k⟩ := h)
    refine ⟨_, PSs.nox (pss_cons (ps_expr (pe_fn (ok_need_place_turnings T) (hr.mono (by decide)) (pa_cons (pv 1) (pa_cons (pe_fld (pv 0) rfl) pa_nil))))
      (pss_cons (ps_expr (pe_fn (ok_need_place_turnings T) (hr.mono (by decide)) (pa_cons (pv 2) (pa_cons (pe_fld (pv 0) rfl) pa_nil))))
      (pss_one (ps_ret (pe_ms (pv 0) (ok_Tally_from_on T) (hr.mono (by decide)) (pa_cons (pv 1) (pa_cons (pv 2) pa_nil))))))), ?_⟩
    obtain ⟨dx, fl, as, fs, h1, h2, h3, h4⟩ := id hx
    refine ⟨_, rfl, _, rfl, x, _, dx, _, _, rfl, h1, T.cl_Tally, T.na_Tally_many, rfl, b, t.length, rfl, by omega, by omega, ?_⟩
    refine ⟨_, rfl, _, rfl, x, _, dx, _, _, rfl, h1, T.cl_Tally, T.na_Tally_many, rfl, e, t.length, rfl, by omega, by omega, ?_⟩
    exact ⟨_, rfl, x, _, dx, _, rfl, h1, rfl, rfl, _, rfl, _, rfl, x, t, b, e, rfl, hx, hz, k⟩
theorem ok_Tally_below {P : Program} {w : World} {K : PySem.W.Frag} {mg : Str → Option Value} {base : Heap} (T : Tx K mg) : ∀ C, C = He.ga K "Tally" → Mt P w K mg base C "below" ["self", "begin", "end"] (4) (sp_Tally_below K) := by
  intro C hC
  subst hC
  obtain ⟨fd, F⟩ := T.D_Tally_below
  obtain ⟨b, G⟩ := fn_Tally_below (P := P) (w := w) (base := base) T F
  exact ⟨_, fd, T.cl_Tally, T.m_Tally_below, b, G⟩
def sp_need_window : Sp := fun vs H Q _ => ∃ (T : Addr) (tall wide a b c d : Int), vs = [.int tall, .int wide, .ref T] ∧ H T = some (.tup [.int a, .int b, .int c, .int d]) ∧ 0 ≤ a ∧ a ≤ b ∧ b ≤ tall ∧ 0 ≤ c ∧ c ≤ d ∧ d ≤ wide ∧ a = 0 ∧ b = tall ∧ Q .non H
abbrev sc_need_window_N : List Str := ["tall", "wide", "spans", "first", "last", "begin", "end", "starts", "stops"]
theorem sc_need_window : FnScope sc_need_window_N ["tall", "wide", "spans"] (defScope s_need_window) := ⟨rfl, rfl, rfl, by decide +kernel, rfl, by decide +kernel, by decide +kernel⟩
theorem ok_need_window {P : Program} {w : World} {K : PySem.W.Frag} {mg : Str → Option Value} {base : Heap} (T : Tx K mg) : Fn P w K mg base "need_window" ["tall", "wide", "spans"] (4) sp_need_window := by
  obtain ⟨fd, F⟩ := T.D_need_window
  refine ⟨_, fd, T.g_need_window, F.kp, F.bindsN (fun _ _ _ _ _ _ us hl => match us, hl with | [_, _, _], _ => rfl), F.ok sc_need_window (fun vs H Q E h => ?_) (fun cdv A outer s H vs Q E hr h => ?_)⟩
  · (obtain ⟨Tp, tall, wide, a, b, c, d, rfl, hT, h0, h1, h2, h3, h4, h5, h6, h7, k⟩ := h)
    rfl
  · (obtain ⟨Tp, tall, wide, a, b, c, d, rfl, hT, h0, h1, h2, h3, h4, h5, h6, h7, k⟩ := h)
    refine ⟨_, PSs.nox (pss_cons (ps_asg (pv 2) (pg_tup (by rfl) (pgs_cons (pg_name (i := 3) sc_need_window.nd rfl (Or.inl rfl)) (pgs_cons (pg_name (i := 4) sc_need_window.nd rfl (Or.inl rfl)) (pgs_cons (pg_name (i := 5) sc_need_window.nd rfl (Or.inl rfl)) (pgs_cons (pg_name (i := 6) sc_need_window.nd rfl (Or.inl rfl)) pgs_nil))))))
      (pss_cons (ps_expr (pe_fn (ok_need_span T) (hr.mono (by decide)) (pa_cons (pv 3) (pa_cons (pv 4) (pa_cons (pv 0) pa_nil)))))
      (pss_cons (ps_expr (pe_fn (ok_need_span T) (hr.mono (by decide)) (pa_cons (pv 5) (pa_cons (pv 6) (pa_cons (pv 1) pa_nil)))))
      (pss_cons (ps_set (i := 7) sc_need_window.nd rfl (Or.inl rfl) (pe_or (pe_cmpR op_eq (pv 3) pe_int (nomark _)) (pe_one (pe_cmpR op_eq (pv 5) pe_int (nomark _)))))
      (pss_cons (ps_set (i := 8) sc_need_window.nd rfl (Or.inl rfl) (pe_or (pe_cmpR op_eq (pv 4) (pv 0) (nomark _)) (pe_one (pe_cmpR op_eq (pv 6) (pv 1) (nomark _)))))
      (pss_one (ps_if (PW.pt (pw_or (pt_not (pt_val (pv 7))) (pw_or1 (pt_not (pt_val (pv 8)))))) (pss_one ps_never) pss_nil))))))), ?_⟩
    refine ⟨_, rfl, Tp, _, rfl, SqT.of hT, rfl, _, _, rfl, _, _, rfl, _, _, rfl, _, _, rfl, rfl, ?_⟩
    refine ⟨_, rfl, _, rfl, _, rfl, a, b, tall, rfl, h0, h1, h2, ?_⟩
    refine ⟨_, rfl, _, rfl, _, rfl, c, d, wide, rfl, h3, h4, h5, ?_⟩
    have e1 : decide (V.int a = V.int 0) = true := decide_eq_true (by rw [h6])
    have e2 : decide (V.int b = V.int tall) = true := decide_eq_true (by rw [h7])
    refine ⟨_, rfl, rfl, _, rfl, iteDT (by rw [h6]) ?_⟩
    refine ⟨_, rfl, _, rfl, rfl, _, rfl, iteDT (by rw [h7]) ?_⟩
    exact ⟨_, rfl, _, rfl, iteF ⟨_, rfl, _, rfl, iteF k⟩⟩
theorem same_make {H : Hp} {y dy : Addr} {o1 o2 : HO} (hy : H y = none) (hdy : H dy = none) : Same H (hide y (upd (upd H dy o1) y o2)) := fun b u e =>
  hide_of (by rw [upd_ne (ne_of_none e hy), upd_ne (ne_of_none e hdy)]; exact e) (ne_of_none e hy)
theorem TallyAt.hide {K : PySem.W.Frag} {H : Hp} {x y C dx : Addr} {f : List (Str × V)} {t : List Nat} (e : H x = some (.ins C dx f)) (n : y ≠ x) (h : TallyAt K H y t) : TallyAt K (hide x H) y t :=
  let ⟨dx, fl, as, fs, h1, h2, h3, h4⟩ := h; ⟨dx, fl, as, fs, hide_of h1 n, hide_ne e h2 (fun z => by cases z), h3.hide e, h4⟩
def AsksAt (K : PySem.W.Frag) (H : Hp) (x : Addr) (l : List Nat) (m : Nat) : Prop :=
  ∃ (dx tl g st : Addr), H x = some (.ins (He.ga K "Asks") dx [("tall", nV m), ("wide", .int ((l.length : Int) - (m : Int))), ("tally", .ref tl), ("goals", .ref g), ("starts", .ref st)]) ∧ TallyAt K H tl l
def sp_Asks_init (K : PySem.W.Frag) : Sp := fun vs H Q _ => ∃ (x a dx : Addr) (t : List Nat) (m : Nat), vs = [.ref x, .ref a, nV m] ∧ H x = some (.ins (He.ga K "Asks") dx []) ∧ LAt (hide x H) a t ∧ PtM.Turn t ∧ t.length ≤ 96 ∧ m ≤ t.length ∧ ∀ H', Same (hide x H) H' → AsksAt K H' x t m → Q .non H'
abbrev sc_Asks_init_N : List Str := ["self", "lines", "many"]
theorem sc_Asks_init : FnScope sc_Asks_init_N ["self", "lines", "many"] (defScope s_Asks_init) := ⟨rfl, rfl, rfl, by decide +kernel, rfl, by decide +kernel, by decide +kernel⟩
theorem fn_Asks_init {P : Program} {w : World} {K : PySem.W.Frag} {mg : Str → Option Value} {base : Heap} (T : Tx K mg) {f : Addr} {fd : FuncData} (F : FunD K "__init__" "Asks.__init__" (defArgs s_Asks_init) (defBody s_Asks_init) (defScope s_Asks_init) [] [] f fd) : Binds K fd ["self", "lines", "many"] [] ∧ FnOk P w K mg base CX0 (7) f fd ["self", "lines", "many"] (sp_Asks_init K) := by
  refine ⟨F.bindsN (fun _ _ _ _ _ _ us hl => match us, hl with | [_, _, _], _ => rfl), F.ok sc_Asks_init (fun vs H Q E h => ?_) (fun cdv A outer s H vs Q E hr h => ?_)⟩
  · (obtain ⟨x, a, dx, t, m, rfl, hx, ha, ht, hz, hm, k⟩ := h)
    rfl
  · (obtain ⟨x, a, dx, t, m, rfl, hx, ha, ht, hz, hm, k⟩ := h)
    refine ⟨_, PSs.nox (pss_cons (ps_expr (pe_fn (ok_need_turning T) (hr.mono (by decide)) (pa_cons (pv 1) pa_nil)))
      (pss_cons (ps_expr (pe_fn (ok_need_place_turnings T) (hr.mono (by decide)) (pa_cons (pv 2) (pa_cons (pe_callB call_len_seq (by rfl) T.z_len (by decide +kernel) (pa_cons (pv 1) pa_nil)) pa_nil))))
      (pss_cons (ps_fld (pv 0) (pv 2) rfl)
      (pss_cons (ps_fld (pv 0) (pe_op op_sub (pe_callB call_len_seq (by rfl) T.z_len (by decide +kernel) (pa_cons (pv 1) pa_nil)) (pv 2)) rfl)
      (pss_cons (ps_fld (pv 0) (pe_nw (new_Tally T) (hr.mono (by decide)) (pa_cons (pv 1) pa_nil)) rfl)
      (pss_cons (ps_fld (pv 0) (pe_callTy call_list_of (by rfl) T.z_list (by decide +kernel) (pa_cons (pv 1) pa_nil)) rfl)
      (pss_one (ps_fld (pv 0) (pe_fn (ok_opposite T) (hr.mono (by decide)) (pa_cons (pv 1) pa_nil)) rfl)))))))), ?_⟩
    have lt : (IL t).length = t.length := by simp
    have hx0 : hide x H x = none := by unfold hide; rw [if_pos rfl]
    refine ⟨_, rfl, a, t, rfl, (of_hide ha).1, ht, hz, fun v H1 s1 e => ?_⟩
    have s1' : Same (hide x H) H1 := unhide.trans s1
    refine ⟨_, rfl, _, rfl, a, _, rfl, .inl (SqL.of (s1' _ _ ha)), (m : Int), (t.length : Int), by rw [lt]; rfl, by omega, by omega, ?_⟩
    refine ⟨_, rfl, _, rfl, x, _, dx, _, rfl, s1 _ _ hx, T.cl_Asks, T.na_Asks_tall, by simp, ?_⟩
    rw [putF_nil]
    have s2 := same_upd s1' (o := .ins (He.ga K "Asks") dx [("tall", nV m)]) hx0
    refine ⟨_, rfl, a, _, rfl, .inl (SqL.of (s2 _ _ ha)), _, rfl, _, _, rfl, rfl, _, rfl, x, _, dx, _, rfl, upd_same, T.cl_Asks, T.na_Asks_wide, by simp, ?_⟩
    rw [putF_ne (by decide), putF_nil]
    have s3 := same_upd s2 (o := .ins (He.ga K "Asks") dx [("tall", nV m), ("wide", .int (((IL t).length : Int) - (m : Int)))]) hx0
    refine ⟨_, rfl, fun y dy hy hdy hne => ?_⟩
    have hyx : y ≠ x := fun z => by subst z; rw [upd_same] at hy; cases hy
    have sm := same_make hy hdy (o1 := .own y) (o2 := .ins (He.ga K "Tally") dy [])
    refine ⟨y, a, dy, t, rfl, upd_same, sm _ _ (s3 _ _ ha), ht, hz, fun H4 s4 hT => ⟨rfl, _, rfl, x, _, dx, _, rfl, (sm.trans s4) _ _ upd_same, T.cl_Asks, T.na_Asks_tally, by simp, ?_⟩⟩
    rw [putF_ne (by decide), putF_ne (by decide), putF_nil]
    have hx4 := (sm.trans s4) _ _ (upd_same (a := x))
    have s5 := same_upd (s3.trans (sm.trans s4)) (o := .ins (He.ga K "Asks") dx [("tall", nV m), ("wide", .int (((IL t).length : Int) - (m : Int))), ("tally", .ref y)]) hx0
    refine ⟨_, rfl, a, _, rfl, .inl (SqL.of (s5 _ _ ha)), fun g hg => ?_⟩
    have s6 := same_upd s5 (o := .lst (IL t)) (s5.free hg)
    have hgx : x ≠ g := fun z => by subst z; rw [upd_same] at hg; cases hg
    refine ⟨_, rfl, x, _, dx, _, rfl, (upd_ne hgx).trans upd_same, T.cl_Asks, T.na_Asks_goals, by simp, ?_⟩
    rw [putF_ne (by decide), putF_ne (by decide), putF_ne (by decide), putF_nil]
    have s7 := same_upd s6 (o := .ins (He.ga K "Asks") dx [("tall", nV m), ("wide", .int (((IL t).length : Int) - (m : Int))), ("tally", .ref y), ("goals", .ref g)]) hx0
    refine ⟨_, rfl, a, t, rfl, s7 _ _ ha, ht, hz, ?_⟩
    rintro v8 H8 s8 ⟨st, rfl, hst, _⟩
    refine ⟨_, rfl, x, _, dx, _, rfl, s8 _ _ upd_same, T.cl_Asks, T.na_Asks_starts, by simp, ?_⟩
    rw [putF_ne (by decide), putF_ne (by decide), putF_ne (by decide), putF_ne (by decide), putF_nil]
    have s9 := same_upd (s7.trans s8) (o := .ins (He.ga K "Asks") dx [("tall", nV m), ("wide", .int (((IL t).length : Int) - (m : Int))), ("tally", .ref y), ("goals", .ref g), ("starts", .ref st)]) hx0
    refine k _ s9 ⟨dx, y, g, st, by rw [upd_same, lt], ?_⟩
    have hx40 : hide x H4 x = none := by unfold hide; rw [if_pos rfl]
    have r5 : Same (hide x H4) _ := same_over (o := .ins (He.ga K "Asks") dx [("tall", nV m), ("wide", .int (((IL t).length : Int) - (m : Int))), ("tally", .ref y)])
    have r6 := same_upd r5 (o := .lst (IL t)) (r5.free hg)
    have r7 := same_upd r6 (o := .ins (He.ga K "Asks") dx [("tall", nV m), ("wide", .int (((IL t).length : Int) - (m : Int))), ("tally", .ref y), ("goals", .ref g)]) hx40
    exact (hT.hide hx4 hyx).mono (same_upd (r7.trans s8) hx40)
theorem new_Asks {P : Program} {w : World} {K : PySem.W.Frag} {mg : Str → Option Value} {base : Heap} (T : Tx K mg) : Nw P w K mg base "Asks" (He.ga K "Asks") ["self", "lines", "many"] (7) (sp_Asks_init K) := by
  obtain ⟨fd, F⟩ := T.D_Asks_init
  obtain ⟨b, G⟩ := fn_Asks_init (P := P) (w := w) (base := base) T F
  exact ⟨_, fd, T.g_Asks, T.mk_Asks, b, G⟩
theorem AsksAt.mono {K : PySem.W.Frag} {H H' : Hp} {x : Addr} {l : List Nat} {m : Nat} (s : Same H H') (h : AsksAt K H x l m) : AsksAt K H' x l m :=
  let ⟨dx, tl, g, st, h1, h2⟩ := h; ⟨dx, tl, g, st, s _ _ h1, h2.mono s⟩
def sp_Asks_window (K : PySem.W.Frag) : Sp := fun vs H Q _ => ∃ (x : Addr) (l : List Nat) (m b e : Nat), vs = [.ref x, .int 0, nV m, nV b, nV e] ∧ AsksAt K H x l m ∧ l.length ≤ 96 ∧ b ≤ e ∧ m + e ≤ l.length ∧ Ret (fun v _ => v = .int ((e : Int) - b - (PtM.cnt l (m + b) e : Nat))) H Q
abbrev sc_Asks_window_N : List Str := ["self", "first", "last", "begin", "end"]
theorem sc_Asks_window : FnScope sc_Asks_window_N ["self", "first", "last", "begin", "end"] (defScope s_Asks_window) := ⟨rfl, rfl, rfl, by decide +kernel, rfl, by decide +kernel, by decide +kernel⟩
theorem fn_Asks_window {P : Program} {w : World} {K : PySem.W.Frag} {mg : Str → Option Value} {base : Heap} (T : Tx K mg) {f : Addr} {fd : FuncData} (F : FunD K "window" "Asks.window" (defArgs s_Asks_window) (defBody s_Asks_window) (defScope s_Asks_window) [] [] f fd) : Binds K fd ["self", "first", "last", "begin", "end"] [] ∧ FnOk P w K mg base CX0 (5) f fd ["self", "first", "last", "begin", "end"] (sp_Asks_window K) := by
  refine ⟨F.bindsN (fun _ _ _ _ _ _ us hl => match us, hl with | [_, _, _, _, _], _ => rfl), F.ok sc_Asks_window (fun vs H Q E h => ?_) (fun cdv A outer s H vs Q E hr h => ?_)⟩
  · (obtain ⟨x, l, m, b, e, rfl, hx, hz, hb, he, k⟩ := h)
    rfl
  · (obtain ⟨x, l, m, b, e, rfl, hx, hz, hb, he, k⟩ := h)
    refine ⟨_, PSs.nox (pss_cons (ps_expr (pe_fn (ok_need_window T) (hr.mono (by decide)) (pa_cons (pe_fld (pv 0) rfl) (pa_cons (pe_fld (pv 0) rfl) (pa_cons (pe_tup (pa_cons (pv 1) (pa_cons (pv 2) (pa_cons (pv 3) (pa_cons (pv 4) pa_nil))))) pa_nil)))))
      (pss_one (ps_ret (pe_op op_sub (pe_op op_sub (pv 4) (pv 3)) (pe_ms (pe_fld (pv 0) rfl) (ok_Tally_below T) (hr.mono (by decide)) (pa_cons (pe_op op_add (pe_op op_sub (pe_fld (pv 0) rfl) (pv 1)) (pv 3)) (pa_cons (pe_op op_add (pe_op op_sub (pe_fld (pv 0) rfl) (pv 2)) (pv 4)) pa_nil))))))), ?_⟩
    obtain ⟨dx, tl, g, st, h1, h2⟩ := id hx
    refine ⟨_, rfl, x, _, dx, _, _, rfl, h1, T.cl_Asks, T.na_Asks_tall, rfl, _, rfl, x, _, dx, _, _, rfl, h1, T.cl_Asks, T.na_Asks_wide, rfl, _, rfl, _, rfl, _, rfl, _, rfl, (by show 4 ≤ sizeLine; decide), fun p hp => ?_⟩
    have s1 := same_new (o := .tup [.int 0, nV m, nV b, nV e]) hp
    refine ⟨p, m, _, 0, m, b, e, rfl, upd_same, by omega, by omega, by omega, by omega, by omega, by omega, rfl, rfl, ?_⟩
    refine ⟨_, rfl, _, rfl, _, _, rfl, rfl, ?_⟩
    refine ⟨_, rfl, x, _, dx, _, _, rfl, s1 _ _ h1, T.cl_Asks, T.na_Asks_tally, rfl, ?_⟩
    obtain ⟨dy, fl, as, fs, y1, _⟩ := id h2
    refine ⟨tl, _, dy, _, rfl, s1 _ _ y1, rfl, rfl, ?_⟩
    refine ⟨_, rfl, x, _, dx, _, _, rfl, s1 _ _ h1, T.cl_Asks, T.na_Asks_tall, rfl, _, rfl, _, _, rfl, rfl, _, rfl, _, _, rfl, rfl, ?_⟩
    refine ⟨_, rfl, x, _, dx, _, _, rfl, s1 _ _ h1, T.cl_Asks, T.na_Asks_tall, rfl, _, rfl, _, _, rfl, rfl, _, rfl, _, _, rfl, rfl, ?_⟩
    refine ⟨tl, l, m + b, e, ?_, h2.mono s1, hz, by omega, by omega, ?_⟩
    · show [V.ref tl, V.int ((m : Int) - 0 + (b : Int)), V.int ((m : Int) - (m : Int) + (e : Int))] = [V.ref tl, V.int ((m + b : Nat) : Int), V.int (e : Int)]
      have e1 : (m : Int) - 0 + (b : Int) = ((m + b : Nat) : Int) := by omega
      have e2 : (m : Int) - (m : Int) + (e : Int) = (e : Int) := by omega
      rw [e1, e2]
    · rintro v H2 s2 rfl
      exact ⟨_, _, rfl, rfl, k _ _ (s1.trans s2) rfl⟩
theorem ok_Asks_window {P : Program} {w : World} {K : PySem.W.Frag} {mg : Str → Option Value} {base : Heap} (T : Tx K mg) : ∀ C, C = He.ga K "Asks" → Mt P w K mg base C "window" ["self", "first", "last", "begin", "end"] (5) (sp_Asks_window K) := by
  intro C hC
  subst hC
  obtain ⟨fd, F⟩ := T.D_Asks_window
  obtain ⟨b, G⟩ := fn_Asks_window (P := P) (w := w) (base := base) T F
  exact ⟨_, fd, T.cl_Asks, T.m_Asks_window, b, G⟩
def sp_Asks_stretch (K : PySem.W.Frag) : Sp := fun vs H Q _ => ∃ (x : Addr) (l : List Nat) (m b e : Nat), vs = [.ref x, nV b, nV e] ∧ AsksAt K H x l m ∧ l.length ≤ 96 ∧ b ≤ e ∧ m + e ≤ l.length ∧ Ret (fun v _ => v = .int ((e : Int) - b - (PtM.cnt l (m + b) e : Nat))) H Q
abbrev sc_Asks_stretch_N : List Str := ["self", "begin", "end"]
theorem sc_Asks_stretch : FnScope sc_Asks_stretch_N ["self", "begin", "end"] (defScope s_Asks_stretch) := ⟨rfl, rfl, rfl, by decide +kernel, rfl, by decide +kernel, by decide +kernel⟩
theorem fn_Asks_stretch {P : Program} {w : World} {K : PySem.W.Frag} {mg : Str → Option Value} {base : Heap} (T : Tx K mg) {f : Addr} {fd : FuncData} (F : FunD K "stretch" "Asks.stretch" (defArgs s_Asks_stretch) (defBody s_Asks_stretch) (defScope s_Asks_stretch) [] [] f fd) : Binds K fd ["self", "begin", "end"] [] ∧ FnOk P w K mg base CX0 (6) f fd ["self", "begin", "end"] (sp_Asks_stretch K) := by
  refine ⟨F.bindsN (fun _ _ _ _ _ _ us hl => match us, hl with | [_, _, _], _ => rfl), F.ok sc_Asks_stretch (fun vs H Q E h => ?_) (fun cdv A outer s H vs Q E hr h => ?_)⟩
  · (obtain ⟨x, l, m, b, e, rfl, hx, hz, hb, he, k⟩ := h)
    rfl
  · (obtain ⟨x, l, m, b, e, rfl, hx, hz, hb, he, k⟩ := h)
    refine ⟨_, PSs.nox (pss_cons (ps_expr (pe_fn (ok_need_span T) (hr.mono (by decide)) (pa_cons (pv 1) (pa_cons (pv 2) (pa_cons (pe_fld (pv 0) rfl) pa_nil)))))
      (pss_one (ps_ret (pe_ms (pv 0) (ok_Asks_window T) (hr.mono (by decide)) (pa_cons pe_int (pa_cons (pe_fld (pv 0) rfl) (pa_cons (pv 1) (pa_cons (pv 2) pa_nil)))))))), ?_⟩
    obtain ⟨dx, tl, g, st, h1, h2⟩ := id hx
    refine ⟨_, rfl, _, rfl, _, rfl, x, _, dx, _, _, rfl, h1, T.cl_Asks, T.na_Asks_wide, rfl, b, e, _, rfl, by omega, by omega, by omega, ?_⟩
    refine ⟨_, rfl, x, _, dx, _, rfl, h1, rfl, rfl, _, rfl, x, _, dx, _, _, rfl, h1, T.cl_Asks, T.na_Asks_tall, rfl, _, rfl, _, rfl, x, l, m, b, e, rfl, hx, hz, hb, he, k⟩
theorem ok_Asks_stretch {P : Program} {w : World} {K : PySem.W.Frag} {mg : Str → Option Value} {base : Heap} (T : Tx K mg) : ∀ C, C = He.ga K "Asks" → Mt P w K mg base C "stretch" ["self", "begin", "end"] (6) (sp_Asks_stretch K) := by
  intro C hC
  subst hC
  obtain ⟨fd, F⟩ := T.D_Asks_stretch
  obtain ⟨b, G⟩ := fn_Asks_stretch (P := P) (w := w) (base := base) T F
  exact ⟨_, fd, T.cl_Asks, T.m_Asks_stretch, b, G⟩
end Pt
end
section
set_option maxRecDepth 100000
set_option maxHeartbeats 4000000
namespace Pt
open PySem PySem.Spec PyProof.Rows L2
theorem nV_sub1 {n : Nat} (h : 0 < n) : V.int ((n : Int) - 1) = nV (n - 1) := by
  have : ((n : Int) - 1) = ((n - 1 : Nat) : Int) := by omega
  rw [this]; rfl
theorem sub1 {n : Nat} (h : 0 < n) : ((n : Int) - 1) = ((n - 1 : Nat) : Int) := by omega
theorem cutV_two {l : List Nat} {p : Nat} (h : p + 1 < l.length) : cutV (IL l) (some (p : Int)) (some ((p : Int) + 2)) = [nV (l.getD p 0), nV (l.getD (p + 1) 0)] := by
  have e : ((p : Int) + 2) = ((p + 2 : Nat) : Int) := by omega
  rw [e, cut_mid (by omega) (by simp; omega)]
  have e1 : l.drop p = l.getD p 0 :: l.getD (p + 1) 0 :: l.drop (p + 2) := by rw [getD_drop (by omega), getD_drop (by omega)]
  have e2 : (IL l).drop p = IL (l.drop p) := by simp [IL]
  rw [e2, e1]
  have : p + 2 - p = 2 := by omega
  rw [this]
  rfl
theorem put_two {l : List Nat} {p : Nat} (h : p + 1 < l.length) (x y : Nat) : (IL l).take p ++ [nV x, nV y] ++ (IL l).drop (p + 2) = IL ((l.set p x).set (p + 1) y) := by
  rw [PtM.swap_eq h]
  simp [IL]
theorem last_IL {p : Nat} {z : Int} (e : z = (p : Int)) {F : List Nat} : IL F ++ [V.int z] = IL (F ++ [p]) := by subst e; simp [IL, nV]
def sp_worked_through : Sp := fun vs H Q _ => ∃ (a b : Addr) (E st : List Nat), vs = [.ref a, .ref b] ∧ LAt H a E ∧ LAt (hide a H) b st ∧ E.length ≤ 1000 ∧ st.length ≤ 90000 ∧ (∀ p ∈ st, p + 1 < E.length) ∧ ∀ v H', Same (hide a H) H' → LAt H' a (PtM.work E st) → Q v H'
abbrev sc_worked_through_N : List Str := ["ending", "steps", "found", "at", "step", "left", "right"]
theorem sc_worked_through : FnScope sc_worked_through_N ["ending", "steps"] (defScope s_worked_through) := ⟨rfl, rfl, rfl, by decide +kernel, rfl, by decide +kernel, by decide +kernel⟩
theorem ok_worked_through {P : Program} {w : World} {K : PySem.W.Frag} {mg : Str → Option Value} {base : Heap} (T : Tx K mg) : Fn P w K mg base "worked_through" ["ending", "steps"] (1) sp_worked_through := by
  obtain ⟨fd, F⟩ := T.D_worked_through
  refine ⟨_, fd, T.g_worked_through, F.kp, F.bindsN (fun _ _ _ _ _ _ us hl => match us, hl with | [_, _], _ => rfl), F.ok sc_worked_through (fun vs H Q E h => ?_) (fun cdv A outer s H vs Q E hr h => ?_)⟩
  · (obtain ⟨a, b, E, st, rfl, ha, hb, hz, hst, hp, k⟩ := h)
    rfl
  · (obtain ⟨a, b, E, st, rfl, ha, hb, hz, hst, hp, k⟩ := h)
    refine ⟨_, PSs.nox (pss_cons (ps_set (i := 2) sc_worked_through.nd rfl (Or.inl rfl) (pe_lst pa_nil))
      (pss_cons (ps_for PassesOwn.never rfl (pi_enum (by rfl) T.z_enumerate (pa_cons (pv 1) pa_nil)) (pg_tup rfl (pgs_cons (pg_name (i := 3) sc_worked_through.nd rfl (Or.inl rfl)) (pgs_cons (pg_name (i := 4) sc_worked_through.nd rfl (Or.inl rfl)) pgs_nil)))
      (pss_cons (ps_asg (pe_slice sl_list (pv 0) (po_some (pv 4)) (po_some (pe_op op_add (pv 4) pe_int))) (pg_unl rfl (pgs_cons (pg_name (i := 5) sc_worked_through.nd rfl (Or.inl rfl)) (pgs_cons (pg_name (i := 6) sc_worked_through.nd rfl (Or.inl rfl)) pgs_nil))))
      (pss_one (ps_if (pt_cmpR op_lt (pv 5) (pv 6) (nomark _)) (pss_cons (ps_asg (pe_lst (pa_cons (pv 6) (pa_cons (pv 5) pa_nil))) (pg_subSl (pv 0) (pv 4) (pe_op op_add (pv 4) pe_int)))
      (pss_one (ps_expr (pe_bm PySem.F.plainAttrs_list PySem.F.slot_list_append PySem.F.type_list_append mt_append (pv 2) (pa_cons (pv 3) pa_nil))))) pss_nil))))
      (pss_one (ps_ret (pv 2))))), ?_⟩
    have ha0 : hide a H a = none := by unfold hide; rw [if_pos rfl]
    refine ⟨Nat.zero_le _, fun f hf => ?_⟩
    have s0 : Same (hide a H) (upd H f (.lst [])) := unhide.trans (same_new hf)
    have haf : a ≠ f := ne_of_none ha hf
    have hf0 : hide a H f = none := by unfold hide; rw [if_neg haf.symm]; exact hf
    refine ⟨_, rfl, b, _, rfl, SqL.of (s0 _ _ hb), for_it (walk_enum (xs := IL st)) (fun i σ H' => ∃ (v1 v2 v3 v4 : Option V) (F : List V), σ = [some (.ref a), some (.ref b), some (.ref f), v1, v2, v3, v4] ∧ Same (hide a H) H' ∧ LAt H' a (PtM.work E (st.take i)) ∧ H' f = some (.lst F) ∧ F.length ≤ i)
      ⟨none, none, none, none, [], rfl, s0, (upd_ne haf).trans ha, upd_same, Nat.le_refl _⟩ (fun i σ H' _ ⟨_, _, _, _, _, _, s, _⟩ => SqL.of (s _ _ hb)) ?_ ?_⟩
    · rintro i x σ H' H'' hi ⟨v1, v2, v3, v4, F, rfl, s, hA, hF, hl⟩ ⟨Tp, y, z, rfl, hT, rfl, e1, e2⟩
      obtain ⟨hbd, rfl⟩ := IL_at e2
      cases e1
      have hm : st.getD i 0 = st[i] := by simp [List.getD, hbd]
      have hp' := hp (st.getD i 0) (by rw [hm]; exact List.getElem_mem hbd)
      generalize st.getD i 0 = p at hp' hm
      have lw : (PtM.work E (st.take i)).length = E.length := PtM.work_len _ _
      generalize hW : PtM.work E (st.take i) = W at hA lw
      have ew : PtM.work E (st.take (i + 1)) = PtM.stepE W p := by
        rw [List.take_succ_eq_append_getElem hbd, PtM.work_snoc, hW, ← hm]
      rw [ew]
      have s1 := same_upd s (o := .tup [.int i, nV p]) (s.free hT)
      have hA1 : (upd H' Tp (.tup [.int i, nV p])) a = some (.lst (IL W)) := (upd_ne (ne_of_none hA hT)).trans hA
      have hF1 : (upd H' Tp (.tup [.int i, nV p])) f = some (.lst F) := (upd_ne (ne_of_none hF hT)).trans hF
      refine ⟨Tp, _, rfl, SqT.of upd_same, rfl, _, _, rfl, _, _, rfl, rfl, ?_⟩
      refine ⟨_, rfl, _, rfl, _, rfl, _, rfl, _, _, rfl, rfl, _, rfl, a, _, rfl, SqL.of hA1, fun q hq => ?_⟩
      rw [cutV_two (by omega)]
      have s2 := same_upd s1 (o := .lst [nV (W.getD p 0), nV (W.getD (p + 1) 0)]) (s1.free hq)
      have hA2 : (upd (upd H' Tp (.tup [.int i, nV p])) q (.lst [nV (W.getD p 0), nV (W.getD (p + 1) 0)])) a = some (.lst (IL W)) := (upd_ne (ne_of_none hA1 hq)).trans hA1
      have hF2 : (upd (upd H' Tp (.tup [.int i, nV p])) q (.lst [nV (W.getD p 0), nV (W.getD (p + 1) 0)])) f = some (.lst F) := (upd_ne (ne_of_none hF1 hq)).trans hF1
      refine ⟨q, _, rfl, SqL.of upd_same, rfl, ?_⟩
      refine ⟨_, _, rfl, _, _, rfl, rfl, ?_⟩
      refine ⟨_, rfl, _, rfl, _, _, rfl, rfl, _, rfl, ?_⟩
      unfold PtM.stepE
      by_cases c : W.getD p 0 < W.getD (p + 1) 0
      · refine iteDT (Int.ofNat_lt.mpr c) ?_
        rw [if_pos c]
        refine ⟨_, rfl, _, rfl, (by show 2 ≤ sizeLine; decide), fun r hr => ?_⟩
        have s3 := same_upd s2 (o := .lst [nV (W.getD (p + 1) 0), nV (W.getD p 0)]) (s2.free hr)
        have har : a ≠ r := ne_of_none hA2 hr
        have hfr : f ≠ r := ne_of_none hF2 hr
        refine ⟨_, rfl, _, rfl, _, rfl, _, _, rfl, rfl, a, r, _, _, p, p + 2, rfl, rfl, rfl, rfl, (upd_ne har).trans hA2, upd_same, har, by omega, by simp; omega, big _ (by simp; omega), ?_⟩
        refine ⟨_, rfl, .inl ⟨rfl, _, SqL.of ((upd_ne haf.symm).trans ((upd_ne hfr).trans hF2))⟩, _, rfl, f, _, _, rfl, rfl, (upd_ne haf.symm).trans ((upd_ne hfr).trans hF2), bigS _ (by omega), ?_⟩
        refine ⟨_, _, _, _, _, rfl, same_upd (same_upd s3 ha0) hf0, ?_, upd_same, by simp; omega⟩
        rw [LAt, upd_ne haf, upd_same, put_two (by omega)]
      · refine iteDF (fun z => c (Int.ofNat_lt.mp z)) ?_
        rw [if_neg c]
        exact ⟨_, _, _, _, F, rfl, s2, hA2, hF2, by omega⟩
    · rintro σ H' ⟨v1, v2, v3, v4, F, rfl, s, hA, hF, hl⟩
      refine ⟨_, rfl, k _ _ s ?_⟩
      have : st.take (IL st).length = st := List.take_of_length_le (by simp)
      rw [this] at hA
      exact hA
theorem repr_rev (F : List Nat) : (IL F).reverse = IL F.reverse := by simp [IL]
def sp_steps_of : Sp := fun vs H Q _ => ∃ (a : Addr) (t : List Nat), vs = [.ref a] ∧ LAt H a t ∧ PtM.Turn t ∧ t.length ≤ 96 ∧ Ret (fun v H' => ∃ b st, v = .ref b ∧ H b = none ∧ LAt H' b st ∧ PtM.StepsOf t st ∧ st.length ≤ 90000) H Q
abbrev sc_steps_of_N : List Str := ["turning", "ending", "found", "stop", "at"]
theorem sc_steps_of : FnScope sc_steps_of_N ["turning"] (defScope s_steps_of) := ⟨rfl, rfl, rfl, by decide +kernel, rfl, by decide +kernel, by decide +kernel⟩
theorem ok_steps_of {P : Program} {w : World} {K : PySem.W.Frag} {mg : Str → Option Value} {base : Heap} (T : Tx K mg) : Fn P w K mg base "steps_of" ["turning"] (6) sp_steps_of := by
  obtain ⟨fd, F⟩ := T.D_steps_of
  refine ⟨_, fd, T.g_steps_of, F.kp, F.bindsN (fun _ _ _ _ _ _ us hl => match us, hl with | [_], _ => rfl), F.ok sc_steps_of (fun vs H Q E h => ?_) (fun cdv A outer s H vs Q E hr h => ?_)⟩
  · (obtain ⟨a, t, rfl, ha, ht, hz, k⟩ := h)
    rfl
  · (obtain ⟨a, t, rfl, ha, ht, hz, k⟩ := h)
    refine ⟨_, PSs.nox (pss_cons (ps_set (i := 1) sc_steps_of.nd rfl (Or.inl rfl) (pe_fn (ok_opposite T) (hr.mono (by decide)) (pa_cons (pv 0) pa_nil)))
      (pss_cons (ps_set (i := 2) sc_steps_of.nd rfl (Or.inl rfl) (pe_lst pa_nil))
      (pss_cons (ps_for PassesOwn.never rfl (pi_range1 rfl T.z_range (pa_cons (pe_callB call_len_seq (by rfl) T.z_len (by decide +kernel) (pa_cons (pv 1) pa_nil)) pa_nil)) (pg_name (i := 3) sc_steps_of.nd rfl (Or.inl rfl))
      (pss_cons (ps_set (i := 4) sc_steps_of.nd rfl (Or.inl rfl) (pv 3))
      (pss_one (ps_while PassesOwn.never (PW.pt (pw_and (pt_cmpR op_gt (pv 4) pe_int (nomark _)) (pw_and1 (pt_cmpR op_gt (pe_ix ix_list (pv 1) (pe_op op_sub (pv 4) pe_int) (fun _ _ => rfl)) (pe_ix ix_list (pv 1) (pv 4) (fun _ _ => rfl)) (nomark _)))))
      (pss_cons (ps_asg (pe_lst (pa_cons (pe_ix ix_list (pv 1) (pv 4) (fun _ _ => rfl)) (pa_cons (pe_ix ix_list (pv 1) (pe_op op_sub (pv 4) pe_int) (fun _ _ => rfl)) pa_nil))) (pg_subSl (pv 1) (pe_op op_sub (pv 4) pe_int) (pe_op op_add (pv 4) pe_int)))
      (pss_cons (ps_aug (i := 4) sc_steps_of.nd rfl (Or.inl rfl) pe_int ip_sub)
      (pss_one (ps_expr (pe_bm PySem.F.plainAttrs_list PySem.F.slot_list_append PySem.F.type_list_append mt_append (pv 2) (pa_cons (pv 4) pa_nil))))))))))
      (pss_one (ps_ret (pe_revL (pv 2))))))), ?_⟩
    refine ⟨_, rfl, a, t, rfl, ha, ht, hz, ?_⟩
    rintro v H1 s1 ⟨b, rfl, hb0, hbL⟩
    refine ⟨Nat.zero_le _, fun f hf => ?_⟩
    have hbf : b ≠ f := ne_of_none hbL hf
    have hf0 : H f = none := s1.free hf
    have lo : (PtM.opp t).length = t.length := PtM.opp_len t
    have hnd := (PtM.opp_turn ht).1
    refine ⟨_, rfl, b, _, rfl, .inl (SqL.of ((upd_ne hbf).trans hbL)), ((PtM.opp t).length : Int), by simp, by omega, by omega, for_range (fun i σ H' => ∃ (v1 v2 : Option V) (E F : List Nat), σ = [some (.ref a), some (.ref b), some (.ref f), v1, v2] ∧ Same H H' ∧ LAt H' b E ∧ LAt H' f F ∧ PtM.SO (PtM.opp t) E F i)
      ⟨none, none, _, [], rfl, same_upd s1 hf0, (upd_ne hbf).trans hbL, upd_same, PtM.SO.start _⟩ ?_ ?_⟩
    · rintro i σ H' hi ⟨v1, v2, E, F, rfl, s, hE, hF, hS⟩
      have hi : i < (PtM.opp t).length := by simpa using hi
      refine ⟨_, rfl, ?_⟩
      refine ⟨fun m σ H' => ∃ (v1 : Option V) (E F : List Nat), σ = [some (.ref a), some (.ref b), some (.ref f), v1, some (nV m)] ∧ Same H H' ∧ LAt H' b E ∧ LAt H' f F ∧ PtM.SI (PtM.opp t) E F i m, ⟨i, some (.int (0 + (i : Int))), E, F, by simp [nV], s, hE, hF, hS.inn hi⟩, ?_⟩
      rintro m σ H' ⟨v1, E, F, rfl, s, hE, hF, hS⟩
      have hlen := hS.len
      have hle := hS.le
      refine ⟨_, rfl, _, _, rfl, rfl, _, rfl, ?_⟩
      by_cases c : 0 < m
      · refine iteDT (by omega) ?_
        obtain ⟨p, rfl⟩ : ∃ p, m = p + 1 := ⟨m - 1, by omega⟩
        have hlt := hS.lt
        have hi1 : p < E.length := by omega
        have hi2 : p + 1 < E.length := by omega
        have ep : ((p + 1 : Nat) : Int) - 1 = (p : Int) := by omega
        have hx1 : atI (IL E) (((p + 1 : Nat) : Int) - 1) = some (nV (E.getD p 0)) := by rw [ep]; exact atI_nat (IL_get hi1)
        have hx2 : atI (IL E) ((p + 1 : Nat) : Int) = some (nV (E.getD (p + 1) 0)) := atI_nat (IL_get hi2)
        refine ⟨_, rfl, _, rfl, _, _, rfl, rfl, b, _, _, _, rfl, rfl, SqL.of hE, hx1, _, rfl, _, rfl, b, _, _, _, rfl, rfl, SqL.of hE, hx2, _, _, rfl, rfl, _, rfl, ?_⟩
        by_cases d : E.getD (p + 1) 0 < E.getD p 0
        · refine iteDT (Int.ofNat_lt.mpr d) ?_
          refine ⟨fun σ' H2 => ∃ (v1 : Option V) (E F : List Nat), σ' = [some (.ref a), some (.ref b), some (.ref f), v1, some (nV p)] ∧ Same H H2 ∧ LAt H2 b E ∧ LAt H2 f F ∧ PtM.SI (PtM.opp t) E F i p, fun σ' H2 ⟨v1, E, F, r⟩ => ⟨p, by omega, v1, E, F, r⟩, ?_⟩
          refine ⟨_, rfl, _, rfl, b, _, _, _, rfl, rfl, SqL.of hE, hx2, _, rfl, _, rfl, _, _, rfl, rfl, b, _, _, _, rfl, rfl, SqL.of hE, hx1, (by show 2 ≤ sizeLine; decide), fun r hr => ?_⟩
          have hbr : b ≠ r := ne_of_none hE hr
          have hfr : f ≠ r := ne_of_none hF hr
          have s3 := same_upd s (o := .lst [nV (E.getD (p + 1) 0), nV (E.getD p 0)]) (s.free hr)
          refine ⟨_, rfl, _, rfl, _, _, rfl, rfl, _, rfl, _, _, rfl, rfl, b, r, _, _, p, p + 2, rfl, rfl, congrArg V.int ep, rfl, (upd_ne hbr).trans hE, upd_same, hbr, by omega, by simp; omega, big _ (by simp; omega), ?_⟩
          rw [put_two hi2]
          have hF3 := (upd_ne (H := upd _ r (.lst [nV (E.getD (p + 1) 0), nV (E.getD p 0)])) (o := .lst (IL ((E.set p (E.getD (p + 1) 0)).set (p + 1) (E.getD p 0)))) hbf.symm).trans ((upd_ne hfr).trans hF)
          have hfew := hS.few
          have hsq : i * (PtM.opp t).length ≤ 96 * 96 := Nat.mul_le_mul (by omega) (by omega)
          refine ⟨_, rfl, _, _, rfl, rfl, _, rfl, .inl ⟨rfl, _, SqL.of hF3⟩, _, rfl, f, _, _, rfl, rfl, hF3, bigS _ (by simp; omega), ?_⟩
          refine ⟨_, _, F ++ [p], congrArg (fun z => [some (V.ref a), some (V.ref b), some (V.ref f), _, some (V.int z)]) ep, same_upd (same_upd s3 hb0) hf0, ?_, by rw [LAt, upd_same]; exact congrArg (fun z => some (HO.lst z)) (last_IL ep), hS.swap d⟩
          rw [LAt, upd_ne hbf, upd_same]
          rfl
        · refine iteDF (fun z => d (Int.ofNat_lt.mp z)) ?_
          exact ⟨_, _, E, F, rfl, s, hE, hF, hS.out hnd (.inr (by simpa using Nat.le_of_not_lt d))⟩
      · refine iteDF (by omega) ?_
        exact ⟨_, _, E, F, rfl, s, hE, hF, hS.out hnd (.inl (by omega))⟩
    · rintro σ H' ⟨v1, v2, E, F, rfl, s, hE, hF, hS⟩
      have en : ((PtM.opp t).length : Int).toNat = (PtM.opp t).length := by omega
      rw [en] at hS
      refine ⟨_, rfl, f, _, rfl, SqL.of hF, fun r hr => ?_⟩
      refine k _ _ (same_upd s (s.free hr)) ⟨r, F.reverse, rfl, s.free hr, by rw [LAt, upd_same, repr_rev], hS.done ht, ?_⟩
      have h1 := hS.few
      have h2 : (PtM.opp t).length * (PtM.opp t).length ≤ 96 * 96 := Nat.mul_le_mul (by omega) (by omega)
      rw [List.length_reverse]
      omega
def sp_need_alike : Sp := fun vs H Q _ => ∃ (a b : Addr) (s t : List Nat), vs = [.ref a, .ref b] ∧ LAt H a s ∧ LAt H b t ∧ PtM.Turn s ∧ PtM.Turn t ∧ s.length = t.length ∧ t.length ≤ 96 ∧ Ret (fun v _ => v = .non) H Q
abbrev sc_need_alike_N : List Str := ["one", "other"]
theorem sc_need_alike : FnScope sc_need_alike_N ["one", "other"] (defScope s_need_alike) := ⟨rfl, rfl, rfl, by decide +kernel, rfl, by decide +kernel, by decide +kernel⟩
theorem ok_need_alike {P : Program} {w : World} {K : PySem.W.Frag} {mg : Str → Option Value} {base : Heap} (T : Tx K mg) : Fn P w K mg base "need_alike" ["one", "other"] (5) sp_need_alike := by
  obtain ⟨fd, F⟩ := T.D_need_alike
  refine ⟨_, fd, T.g_need_alike, F.kp, F.bindsN (fun _ _ _ _ _ _ us hl => match us, hl with | [_, _], _ => rfl), F.ok sc_need_alike (fun vs H Q E h => ?_) (fun cdv A outer s H vs Q E hr h => ?_)⟩
  · (obtain ⟨a, b, s, t, rfl, ha, hb, hs, ht, hl, hz, k⟩ := h)
    rfl
  · (obtain ⟨a, b, s, t, rfl, ha, hb, hs, ht, hl, hz, k⟩ := h)
    refine ⟨_, PSs.nox (pss_cons (ps_expr (pe_fn (ok_need_turning T) (hr.mono (by decide)) (pa_cons (pv 0) pa_nil)))
      (pss_cons (ps_expr (pe_fn (ok_need_turning T) (hr.mono (by decide)) (pa_cons (pv 1) pa_nil)))
      (pss_one (ps_if (pt_cmpR op_ne (pe_callB call_len_seq (by rfl) T.z_len (by decide +kernel) (pa_cons (pv 0) pa_nil)) (pe_callB call_len_seq (by rfl) T.z_len (by decide +kernel) (pa_cons (pv 1) pa_nil)) (nomark _)) (pss_one ps_never) pss_nil)))), ?_⟩
    refine ⟨_, rfl, a, s, rfl, ha, hs, by omega, fun v1 H1 s1 e1 => ?_⟩
    refine ⟨_, rfl, b, t, rfl, s1 _ _ hb, ht, hz, fun v2 H2 s2 e2 => ?_⟩
    have s12 := s1.trans s2
    refine ⟨_, rfl, a, _, rfl, .inl (SqL.of (s12 _ _ ha)), _, rfl, b, _, rfl, .inl (SqL.of (s12 _ _ hb)), rfl, _, rfl, iteNF (by simp [hl]) (k _ _ s12 rfl)⟩
def sp_laid : Sp := fun vs H Q _ => ∃ (a b : Addr) (s t : List Nat), vs = [.ref a, .ref b] ∧ LAt H a s ∧ LAt H b t ∧ PtM.Turn s ∧ PtM.Turn t ∧ s.length = t.length ∧ t.length ≤ 96 ∧ Ret (fun v H' => ∃ r st, v = .ref r ∧ H r = none ∧ LAt H' r (PtM.laidL s st) ∧ PtM.StepsOf t st) H Q
abbrev sc_laid_N : List Str := ["one", "other", "ending"]
theorem sc_laid : FnScope sc_laid_N ["one", "other"] (defScope s_laid) := ⟨rfl, rfl, rfl, by decide +kernel, rfl, by decide +kernel, by decide +kernel⟩
theorem ok_laid {P : Program} {w : World} {K : PySem.W.Frag} {mg : Str → Option Value} {base : Heap} (T : Tx K mg) : Fn P w K mg base "laid" ["one", "other"] (7) sp_laid := by
  obtain ⟨fd, F⟩ := T.D_laid
  refine ⟨_, fd, T.g_laid, F.kp, F.bindsN (fun _ _ _ _ _ _ us hl => match us, hl with | [_, _], _ => rfl), F.ok sc_laid (fun vs H Q E h => ?_) (fun cdv A outer s H vs Q E hr h => ?_)⟩
  · (obtain ⟨a, b, s, t, rfl, ha, hb, hs, ht, hl, hz, k⟩ := h)
    rfl
  · (obtain ⟨a, b, s, t, rfl, ha, hb, hs, ht, hl, hz, k⟩ := h)
    refine ⟨_, PSs.nox (pss_cons (ps_expr (pe_fn (ok_need_alike T) (hr.mono (by decide)) (pa_cons (pv 0) (pa_cons (pv 1) pa_nil))))
      (pss_cons (ps_set (i := 2) sc_laid.nd rfl (Or.inl rfl) (pe_fn (ok_opposite T) (hr.mono (by decide)) (pa_cons (pv 0) pa_nil)))
      (pss_cons (ps_expr (pe_fn (ok_worked_through T) (hr.mono (by decide)) (pa_cons (pv 2) (pa_cons (pe_fn (ok_steps_of T) (hr.mono (by decide)) (pa_cons (pv 1) pa_nil)) pa_nil))))
      (pss_one (ps_ret (pe_fn (ok_opposite T) (hr.mono (by decide)) (pa_cons (pv 2) pa_nil))))))), ?_⟩
    refine ⟨_, rfl, _, rfl, a, b, s, t, rfl, ha, hb, hs, ht, hl, hz, fun v1 H1 s1 e1 => ?_⟩
    refine ⟨_, rfl, a, s, rfl, s1 _ _ ha, hs, by omega, ?_⟩
    rintro v2 H2 s2 ⟨e, rfl, he, heL⟩
    have s12 := s1.trans s2
    refine ⟨_, rfl, _, rfl, b, t, rfl, s12 _ _ hb, ht, hz, ?_⟩
    rintro v3 H3 s3 ⟨q, st, rfl, hq, hqL, hst, hql⟩
    have s13 := s12.trans s3
    have he0 : H e = none := s1.free he
    have lo := PtM.opp_len s
    have ot := PtM.opp_turn hs
    refine ⟨e, q, PtM.opp s, st, rfl, s3 _ _ heL, hide_of hqL (fun z => by subst z; rw [heL] at hq; cases hq), by omega, hql, fun p hp => by have := hst.1 p hp; omega, ?_⟩
    intro v4 H4 s4 hL
    have s14 : Same H H4 := (same_hide s13 he0).trans s4
    have hw := PtM.laid_turn hs hl hst
    refine ⟨_, rfl, e, _, rfl, hL, ?_, ?_, ?_⟩
    · refine PtM.turn_of_perm (n := s.length) ((PtM.work_perm st (PtM.opp s) fun p hp => by have := hst.1 p hp; omega).trans ?_)
      have := PtM.turn_perm ot
      rw [lo] at this
      exact this
    · rw [PtM.work_len]; omega
    · rintro v5 H5 s5 ⟨r, rfl, hr, hrL⟩
      exact k _ _ (s14.trans s5) ⟨r, st, rfl, s14.free hr, hrL, hst⟩
end Pt
end
section
set_option maxRecDepth 100000
set_option maxHeartbeats 4000000
namespace Pt
open PySem PySem.Spec PyProof.Rows L2
def PieceC (K : PySem.W.Frag) (C : Addr) : Prop := C = He.ga K "Blank" ∨ C = He.ga K "One" ∨ C = He.ga K "Over" ∨ C = He.ga K "Beside"
section
variable {K : PySem.W.Frag} {mg : Str → Option Value}
theorem Tx.exx (T : Tx K mg) : ex K = true := T.says.2
theorem ex_parts (h : ex K = true) : ((["Blank", "One", "Over", "Beside"] : List Str).all (fun c => decide (PySem.W.kitOne K (.ref (He.ga K c)) (.ref (He.ga K "Piece")) = some true) &&
    (He.eqO (PySem.W.findIn K (.ref (He.ga K c)) "__class__") (some (some (.builtin "object.__class__"))) &&
      decide (PySem.W.mroIn K (He.ga K c) (.type "object") = some true)))) = true ∧
  PySem.W.specialIn K (.builtin "object.__class__") "__get__" = some (some (.builtin "getset_descriptor.__get__")) ∧ PySem.W.takesIn K (.builtin "object.__class__") = some true ∧
  PySem.W.readsIn K (He.ga K "Piece") (.type "type") = true ∧ PySem.W.specialIn K (.ref (He.ga K "Piece")) "__getattribute__" = some (some (.builtin "type.__getattribute__")) ∧
  PySem.W.findCls K (.ref (He.ga K "Piece")) (.type "type") "__init__" = some (.val (.ref (He.ma K (He.ga K "Piece") "__init__"))) := by
  unfold ex at h
  obtain ⟨h1, h⟩ := Bool.and_eq_true_iff.mp h
  obtain ⟨h2, h⟩ := Bool.and_eq_true_iff.mp h
  obtain ⟨h3, h⟩ := Bool.and_eq_true_iff.mp h
  obtain ⟨h4, h⟩ := Bool.and_eq_true_iff.mp h
  obtain ⟨h5, h⟩ := Bool.and_eq_true_iff.mp h
  refine ⟨h1, He.eqO_ok h2, of_decide_eq_true h3, h4, He.eqO_ok h5, ?_⟩
  split at h
  · rename_i u e
    rw [e, of_decide_eq_true h]
  · cases h
theorem Tx.rd_Piece (T : Tx K mg) : ClX.CRead K (He.ga K "Piece") (.type "type") := ⟨(ex_parts T.exx).2.2.2.1, (ex_parts T.exx).2.2.2.2.1⟩
theorem Tx.cv_Piece (T : Tx K mg) : ClX.CVal K (He.ga K "Piece") (.type "type") "__init__" (.ref (He.ma K (He.ga K "Piece") "__init__")) (.ref (He.ma K (He.ga K "Piece") "__init__")) := ⟨(ex_parts T.exx).2.2.2.2.2, rfl⟩
theorem Tx.kitP (T : Tx K mg) {C : Addr} (h : PieceC K C) : PySem.W.kitOne K (.ref C) (.ref (He.ga K "Piece")) = some true ∧ PySem.W.findIn K (.ref C) "__class__" = some (some (.builtin "object.__class__")) ∧ PySem.W.mroIn K C (.type "object") = some true := by
  have q := List.all_eq_true.mp (ex_parts T.exx).1
  have r : ∀ c, c ∈ (["Blank", "One", "Over", "Beside"] : List Str) → PySem.W.kitOne K (.ref (He.ga K c)) (.ref (He.ga K "Piece")) = some true ∧ PySem.W.findIn K (.ref (He.ga K c)) "__class__" = some (some (.builtin "object.__class__")) ∧ PySem.W.mroIn K (He.ga K c) (.type "object") = some true := by
    intro c hc
    obtain ⟨a, b⟩ := Bool.and_eq_true_iff.mp (q c hc)
    obtain ⟨b, d⟩ := Bool.and_eq_true_iff.mp b
    exact ⟨of_decide_eq_true a, He.eqO_ok b, of_decide_eq_true d⟩
  rcases h with rfl | rfl | rfl | rfl
  · exact r _ (by simp)
  · exact r _ (by simp)
  · exact r _ (by simp)
  · exact r _ (by simp)
theorem Tx.cl_P (T : Tx K mg) {C : Addr} (h : PieceC K C) : Cls K C := by
  rcases h with rfl | rfl | rfl | rfl
  · exact T.cl_Blank
  · exact T.cl_One
  · exact T.cl_Over
  · exact T.cl_Beside
theorem Tx.tyP (T : Tx K mg) {C a dx : Addr} {H : Hp} {fs : List (Str × V)} (h : PieceC K C) (e : H a = some (.ins C dx fs)) : TyOf K H (.ref a) (.ref C) :=
  .ins e (T.cl_P h) (T.kitP h).2.1 (ex_parts T.exx).2.1 (ex_parts T.exx).2.2.1 (T.kitP h).2.2
theorem Tx.naP (T : Tx K mg) {C : Addr} (h : PieceC K C) : NoAttr K C "left_edge" ∧ NoAttr K C "upper_edge" ∧ NoAttr K C "known" ∧ NoAttr K C "made_of" ∧ NoAttr K C "levels" := by
  rcases h with rfl | rfl | rfl | rfl
  · exact ⟨T.na_Blank_left_edge, T.na_Blank_upper_edge, T.na_Blank_known, T.na_Blank_made_of, T.na_Blank_levels⟩
  · exact ⟨T.na_One_left_edge, T.na_One_upper_edge, T.na_One_known, T.na_One_made_of, T.na_One_levels⟩
  · exact ⟨T.na_Over_left_edge, T.na_Over_upper_edge, T.na_Over_known, T.na_Over_made_of, T.na_Over_levels⟩
  · exact ⟨T.na_Beside_left_edge, T.na_Beside_upper_edge, T.na_Beside_known, T.na_Beside_made_of, T.na_Beside_levels⟩
end
abbrev pFs (a b : List Nat) (l m : Addr) (h : Int) : List (Str × V) := [("left_edge", .str (sOf a)), ("upper_edge", .str (sOf b)), ("known", .ref l), ("made_of", .ref m), ("levels", .int h)]
def PieceAt (K : PySem.W.Frag) (H : Hp) (p : Addr) (a b t : List Nat) : Prop :=
  ∃ (C dx l m : Addr) (h : Int), PieceC K C ∧ H p = some (.ins C dx (pFs a b l m h)) ∧ LAt H l t ∧ PtM.PcOk a b t ∧ Row a ∧ Row b
theorem PieceAt.mono {K : PySem.W.Frag} {H H' : Hp} {p : Addr} {a b t : List Nat} (s : Same H H') (h : PieceAt K H p a b t) : PieceAt K H' p a b t :=
  let ⟨C, dx, l, m, h, h1, h2, h3, h4⟩ := h; ⟨C, dx, l, m, h, h1, s _ _ h2, s _ _ h3, h4⟩
theorem PieceAt.len {K : PySem.W.Frag} {H : Hp} {p : Addr} {a b t : List Nat} (h : PieceAt K H p a b t) : t.length ≤ 96 ∧ PtM.Turn t ∧ t.length = a.length + b.length := by
  obtain ⟨C, dx, l, m, h, h1, h2, h3, h4, h5, h6⟩ := h
  have e := h4.len
  have := h5.1
  have := h6.1
  exact ⟨by omega, h4.turn, e⟩
def sp_Piece_side (K : PySem.W.Frag) : Sp := fun vs H Q _ => ∃ (p : Addr) (a b t : List Nat), vs = [.ref p] ∧ PieceAt K H p a b t ∧ Q (.str (sOf a)) H
abbrev sc_Piece_side_N : List Str := ["self"]
theorem sc_Piece_side : FnScope sc_Piece_side_N ["self"] (defScope s_Piece_side) := ⟨rfl, rfl, rfl, by decide +kernel, rfl, by decide +kernel, by decide +kernel⟩
theorem fn_Piece_side {P : Program} {w : World} {K : PySem.W.Frag} {mg : Str → Option Value} {base : Heap} (T : Tx K mg) {f : Addr} {fd : FuncData} (F : FunD K "side" "Piece.side" (defArgs s_Piece_side) (defBody s_Piece_side) (defScope s_Piece_side) [] [] f fd) : Binds K fd ["self"] [] ∧ FnOk P w K mg base CX0 (1) f fd ["self"] (sp_Piece_side K) := by
  refine ⟨F.bindsN (fun _ _ _ _ _ _ us hl => match us, hl with | [_], _ => rfl), F.ok sc_Piece_side (fun vs H Q E h => ?_) (fun cdv A outer s H vs Q E hr h => ?_)⟩
  · (obtain ⟨p, a, b, t, rfl, ⟨C, dx, l, m, h, hC, hp, hl, ok, ra, rb⟩, k⟩ := h)
    rfl
  · (obtain ⟨p, a, b, t, rfl, ⟨C, dx, l, m, h, hC, hp, hl, ok, ra, rb⟩, k⟩ := h)
    refine ⟨_, PSs.nox (pss_one (ps_ret (pe_fld (pv 0) rfl))), ?_⟩
    exact ⟨_, rfl, p, _, dx, _, _, rfl, hp, T.cl_P hC, (T.naP hC).1, rfl, k⟩
theorem ok_Piece_side {P : Program} {w : World} {K : PySem.W.Frag} {mg : Str → Option Value} {base : Heap} (T : Tx K mg) : ∀ C, PieceC K C → Mt P w K mg base C "side" ["self"] (1) (sp_Piece_side K) := by
  intro C hC
  rcases hC with rfl | rfl | rfl | rfl
  · obtain ⟨fd, F⟩ := T.D_Blank_side
    obtain ⟨b, G⟩ := fn_Piece_side (P := P) (w := w) (base := base) T F
    exact ⟨_, fd, T.cl_Blank, T.m_Blank_side, b, G⟩
  · obtain ⟨fd, F⟩ := T.D_One_side
    obtain ⟨b, G⟩ := fn_Piece_side (P := P) (w := w) (base := base) T F
    exact ⟨_, fd, T.cl_One, T.m_One_side, b, G⟩
  · obtain ⟨fd, F⟩ := T.D_Over_side
    obtain ⟨b, G⟩ := fn_Piece_side (P := P) (w := w) (base := base) T F
    exact ⟨_, fd, T.cl_Over, T.m_Over_side, b, G⟩
  · obtain ⟨fd, F⟩ := T.D_Beside_side
    obtain ⟨b, G⟩ := fn_Piece_side (P := P) (w := w) (base := base) T F
    exact ⟨_, fd, T.cl_Beside, T.m_Beside_side, b, G⟩
def sp_Piece_top (K : PySem.W.Frag) : Sp := fun vs H Q _ => ∃ (p : Addr) (a b t : List Nat), vs = [.ref p] ∧ PieceAt K H p a b t ∧ Q (.str (sOf b)) H
abbrev sc_Piece_top_N : List Str := ["self"]
theorem sc_Piece_top : FnScope sc_Piece_top_N ["self"] (defScope s_Piece_top) := ⟨rfl, rfl, rfl, by decide +kernel, rfl, by decide +kernel, by decide +kernel⟩
theorem fn_Piece_top {P : Program} {w : World} {K : PySem.W.Frag} {mg : Str → Option Value} {base : Heap} (T : Tx K mg) {f : Addr} {fd : FuncData} (F : FunD K "top" "Piece.top" (defArgs s_Piece_top) (defBody s_Piece_top) (defScope s_Piece_top) [] [] f fd) : Binds K fd ["self"] [] ∧ FnOk P w K mg base CX0 (1) f fd ["self"] (sp_Piece_top K) := by
  refine ⟨F.bindsN (fun _ _ _ _ _ _ us hl => match us, hl with | [_], _ => rfl), F.ok sc_Piece_top (fun vs H Q E h => ?_) (fun cdv A outer s H vs Q E hr h => ?_)⟩
  · (obtain ⟨p, a, b, t, rfl, ⟨C, dx, l, m, h, hC, hp, hl, ok, ra, rb⟩, k⟩ := h)
    rfl
  · (obtain ⟨p, a, b, t, rfl, ⟨C, dx, l, m, h, hC, hp, hl, ok, ra, rb⟩, k⟩ := h)
    refine ⟨_, PSs.nox (pss_one (ps_ret (pe_fld (pv 0) rfl))), ?_⟩
    exact ⟨_, rfl, p, _, dx, _, _, rfl, hp, T.cl_P hC, (T.naP hC).2.1, rfl, k⟩
theorem ok_Piece_top {P : Program} {w : World} {K : PySem.W.Frag} {mg : Str → Option Value} {base : Heap} (T : Tx K mg) : ∀ C, PieceC K C → Mt P w K mg base C "top" ["self"] (1) (sp_Piece_top K) := by
  intro C hC
  rcases hC with rfl | rfl | rfl | rfl
  · obtain ⟨fd, F⟩ := T.D_Blank_top
    obtain ⟨b, G⟩ := fn_Piece_top (P := P) (w := w) (base := base) T F
    exact ⟨_, fd, T.cl_Blank, T.m_Blank_top, b, G⟩
  · obtain ⟨fd, F⟩ := T.D_One_top
    obtain ⟨b, G⟩ := fn_Piece_top (P := P) (w := w) (base := base) T F
    exact ⟨_, fd, T.cl_One, T.m_One_top, b, G⟩
  · obtain ⟨fd, F⟩ := T.D_Over_top
    obtain ⟨b, G⟩ := fn_Piece_top (P := P) (w := w) (base := base) T F
    exact ⟨_, fd, T.cl_Over, T.m_Over_top, b, G⟩
  · obtain ⟨fd, F⟩ := T.D_Beside_top
    obtain ⟨b, G⟩ := fn_Piece_top (P := P) (w := w) (base := base) T F
    exact ⟨_, fd, T.cl_Beside, T.m_Beside_top, b, G⟩
def sp_Piece_lines (K : PySem.W.Frag) : Sp := fun vs H Q _ => ∃ (p : Addr) (a b t : List Nat), vs = [.ref p] ∧ PieceAt K H p a b t ∧ ∀ q, H q = none → Q (.ref q) (upd H q (.lst (IL t)))
abbrev sc_Piece_lines_N : List Str := ["self"]
theorem sc_Piece_lines : FnScope sc_Piece_lines_N ["self"] (defScope s_Piece_lines) := ⟨rfl, rfl, rfl, by decide +kernel, rfl, by decide +kernel, by decide +kernel⟩
theorem fn_Piece_lines {P : Program} {w : World} {K : PySem.W.Frag} {mg : Str → Option Value} {base : Heap} (T : Tx K mg) {f : Addr} {fd : FuncData} (F : FunD K "lines" "Piece.lines" (defArgs s_Piece_lines) (defBody s_Piece_lines) (defScope s_Piece_lines) [] [] f fd) : Binds K fd ["self"] [] ∧ FnOk P w K mg base CX0 (1) f fd ["self"] (sp_Piece_lines K) := by
  refine ⟨F.bindsN (fun _ _ _ _ _ _ us hl => match us, hl with | [_], _ => rfl), F.ok sc_Piece_lines (fun vs H Q E h => ?_) (fun cdv A outer s H vs Q E hr h => ?_)⟩
  · (obtain ⟨p, a, b, t, rfl, ⟨C, dx, l, m, h, hC, hp, hl, ok, ra, rb⟩, k⟩ := h)
    rfl
  · (obtain ⟨p, a, b, t, rfl, ⟨C, dx, l, m, h, hC, hp, hl, ok, ra, rb⟩, k⟩ := h)
    refine ⟨_, PSs.nox (pss_one (ps_ret (pe_callTy call_list_of (by rfl) T.z_list (by decide +kernel) (pa_cons (pe_fld (pv 0) rfl) pa_nil)))), ?_⟩
    exact ⟨_, rfl, p, _, dx, _, _, rfl, hp, T.cl_P hC, (T.naP hC).2.2.1, rfl, l, _, rfl, .inl (SqL.of hl), fun q hq => k q hq⟩
theorem ok_Piece_lines {P : Program} {w : World} {K : PySem.W.Frag} {mg : Str → Option Value} {base : Heap} (T : Tx K mg) : ∀ C, PieceC K C → Mt P w K mg base C "lines" ["self"] (1) (sp_Piece_lines K) := by
  intro C hC
  rcases hC with rfl | rfl | rfl | rfl
  · obtain ⟨fd, F⟩ := T.D_Blank_lines
    obtain ⟨b, G⟩ := fn_Piece_lines (P := P) (w := w) (base := base) T F
    exact ⟨_, fd, T.cl_Blank, T.m_Blank_lines, b, G⟩
  · obtain ⟨fd, F⟩ := T.D_One_lines
    obtain ⟨b, G⟩ := fn_Piece_lines (P := P) (w := w) (base := base) T F
    exact ⟨_, fd, T.cl_One, T.m_One_lines, b, G⟩
  · obtain ⟨fd, F⟩ := T.D_Over_lines
    obtain ⟨b, G⟩ := fn_Piece_lines (P := P) (w := w) (base := base) T F
    exact ⟨_, fd, T.cl_Over, T.m_Over_lines, b, G⟩
  · obtain ⟨fd, F⟩ := T.D_Beside_lines
    obtain ⟨b, G⟩ := fn_Piece_lines (P := P) (w := w) (base := base) T F
    exact ⟨_, fd, T.cl_Beside, T.m_Beside_lines, b, G⟩
def sp_Piece_height (K : PySem.W.Frag) : Sp := fun vs H Q _ => ∃ (p : Addr) (a b t : List Nat), vs = [.ref p] ∧ PieceAt K H p a b t ∧ ∀ h : Int, Q (.int h) H
abbrev sc_Piece_height_N : List Str := ["self"]
theorem sc_Piece_height : FnScope sc_Piece_height_N ["self"] (defScope s_Piece_height) := ⟨rfl, rfl, rfl, by decide +kernel, rfl, by decide +kernel, by decide +kernel⟩
theorem fn_Piece_height {P : Program} {w : World} {K : PySem.W.Frag} {mg : Str → Option Value} {base : Heap} (T : Tx K mg) {f : Addr} {fd : FuncData} (F : FunD K "height" "Piece.height" (defArgs s_Piece_height) (defBody s_Piece_height) (defScope s_Piece_height) [] [] f fd) : Binds K fd ["self"] [] ∧ FnOk P w K mg base CX0 (1) f fd ["self"] (sp_Piece_height K) := by
  refine ⟨F.bindsN (fun _ _ _ _ _ _ us hl => match us, hl with | [_], _ => rfl), F.ok sc_Piece_height (fun vs H Q E h => ?_) (fun cdv A outer s H vs Q E hr h => ?_)⟩
  · (obtain ⟨p, a, b, t, rfl, ⟨C, dx, l, m, h, hC, hp, hl, ok, ra, rb⟩, k⟩ := h)
    rfl
  · (obtain ⟨p, a, b, t, rfl, ⟨C, dx, l, m, h, hC, hp, hl, ok, ra, rb⟩, k⟩ := h)
    refine ⟨_, PSs.nox (pss_one (ps_ret (pe_fld (pv 0) rfl))), ?_⟩
    exact ⟨_, rfl, p, _, dx, _, _, rfl, hp, T.cl_P hC, (T.naP hC).2.2.2.2, rfl, k h⟩
theorem ok_Piece_height {P : Program} {w : World} {K : PySem.W.Frag} {mg : Str → Option Value} {base : Heap} (T : Tx K mg) : ∀ C, PieceC K C → Mt P w K mg base C "height" ["self"] (1) (sp_Piece_height K) := by
  intro C hC
  rcases hC with rfl | rfl | rfl | rfl
  · obtain ⟨fd, F⟩ := T.D_Blank_height
    obtain ⟨b, G⟩ := fn_Piece_height (P := P) (w := w) (base := base) T F
    exact ⟨_, fd, T.cl_Blank, T.m_Blank_height, b, G⟩
  · obtain ⟨fd, F⟩ := T.D_One_height
    obtain ⟨b, G⟩ := fn_Piece_height (P := P) (w := w) (base := base) T F
    exact ⟨_, fd, T.cl_One, T.m_One_height, b, G⟩
  · obtain ⟨fd, F⟩ := T.D_Over_height
    obtain ⟨b, G⟩ := fn_Piece_height (P := P) (w := w) (base := base) T F
    exact ⟨_, fd, T.cl_Over, T.m_Over_height, b, G⟩
  · obtain ⟨fd, F⟩ := T.D_Beside_height
    obtain ⟨b, G⟩ := fn_Piece_height (P := P) (w := w) (base := base) T F
    exact ⟨_, fd, T.cl_Beside, T.m_Beside_height, b, G⟩
theorem PieceAt.ne {K : PySem.W.Frag} {H : Hp} {p x C dx : Addr} {a b t : List Nat} {fs : List (Str × V)} (h : PieceAt K H p a b t) (e : H x = some (.ins C dx fs)) (n : fs.lookup ("levels" : Str) = none) : p ≠ x := by
  rintro rfl
  obtain ⟨C', dx', l, m, i, h1, h2, _⟩ := h
  rw [e] at h2
  injection h2 with h2
  injection h2 with _ _ h2
  subst h2
  cases n
def sp_Piece_init (K : PySem.W.Frag) : Sp := fun vs H Q _ => ∃ (x Tp l m C dx : Addr) (a b t : List Nat) (ps : List Addr), vs = [.ref x, .ref Tp, .ref l, .ref m] ∧ PieceC K C ∧ H x = some (.ins C dx []) ∧ hide x H Tp = some (.tup [.str (sOf a), .str (sOf b)]) ∧ LAt (hide x H) l t ∧ hide x H m = some (.lst (RL ps)) ∧
  (∀ i, i < ps.length → ∃ a b t, PieceAt K (hide x H) (ps.getD i 0) a b t) ∧ PtM.PcOk a b t ∧ Row a ∧ Row b ∧ ∀ H', Same (hide x H) H' → PieceAt K H' x a b t → Q .non H'
abbrev sc_Piece_init_N : List Str := ["self", "rows", "turning", "made_of", "piece"]
theorem sc_Piece_init : FnScope sc_Piece_init_N ["self", "rows", "turning", "made_of"] (defScope s_Piece_init) := ⟨rfl, rfl, rfl, by decide +kernel, rfl, by decide +kernel, by decide +kernel⟩
theorem fn_Piece_init {P : Program} {w : World} {K : PySem.W.Frag} {mg : Str → Option Value} {base : Heap} (T : Tx K mg) {f : Addr} {fd : FuncData} (F : FunD K "__init__" "Piece.__init__" (defArgs s_Piece_init) (defBody s_Piece_init) (defScope s_Piece_init) [] [] f fd) : Binds K fd ["self", "rows", "turning", "made_of"] [] ∧ FnOk P w K mg base CX0 (2) f fd ["self", "rows", "turning", "made_of"] (sp_Piece_init K) := by
  refine ⟨F.bindsN (fun _ _ _ _ _ _ us hl => match us, hl with | [_, _, _, _], _ => rfl), F.ok sc_Piece_init (fun vs H Q E h => ?_) (fun cdv A outer s H vs Q E hr h => ?_)⟩
  · (obtain ⟨x, Tp, l, m, C, dx, a, b, t, ps, rfl, hC, hx, hT, hl, hm, hps, ok, ra, rb, k⟩ := h)
    rfl
  · (obtain ⟨x, Tp, l, m, C, dx, a, b, t, ps, rfl, hC, hx, hT, hl, hm, hps, ok, ra, rb, k⟩ := h)
    refine ⟨_, PSs.nox (pss_cons (ps_fld (pv 0) (pe_ix ix_tup (pv 1) pe_int (fun _ _ => rfl)) rfl)
      (pss_cons (ps_fld (pv 0) (pe_ix ix_tup (pv 1) pe_int (fun _ _ => rfl)) rfl)
      (pss_cons (ps_fld (pv 0) (pe_callTy call_list_of (by rfl) T.z_list (by decide +kernel) (pa_cons (pv 2) pa_nil)) rfl)
      (pss_cons (ps_fld (pv 0) (pe_callTy call_list_of (by rfl) T.z_list (by decide +kernel) (pa_cons (pv 3) pa_nil)) rfl)
      (pss_cons (ps_fld (pv 0) pe_int rfl)
      (pss_one (ps_for PassesOwn.never rfl (pi_list (pv 3)) (pg_name (i := 4) sc_Piece_init.nd rfl (Or.inl rfl))
      (pss_one (ps_fld (pv 0) (pe_callB (call_max2 rfl) (by rfl) T.z_max (by decide +kernel) (pa_cons (pe_fld (pv 0) rfl) (pa_cons (pe_op op_add (pe_ms0 (pv 4) (ok_Piece_height T) (hr.mono (by decide))) pe_int) pa_nil))) rfl))))))))), ?_⟩
    have hx0 : hide x H x = none := by unfold hide; rw [if_pos rfl]
    have na := T.naP hC
    have s0 : Same (hide x H) H := unhide
    refine ⟨_, rfl, Tp, _, _, _, rfl, rfl, SqT.of (of_hide hT).1, rfl, _, rfl, x, C, dx, _, rfl, hx, T.cl_P hC, na.1, by simp, ?_⟩
    rw [putF_nil]
    have s1 := same_upd s0 (o := .ins C dx [("left_edge", .str (sOf a))]) hx0
    refine ⟨_, rfl, Tp, _, _, _, rfl, rfl, SqT.of (s1 _ _ hT), rfl, _, rfl, x, C, dx, _, rfl, upd_same, T.cl_P hC, na.2.1, by simp, ?_⟩
    rw [putF_ne (by decide), putF_nil]
    have s2 := same_upd s1 (o := .ins C dx [("left_edge", .str (sOf a)), ("upper_edge", .str (sOf b))]) hx0
    refine ⟨_, rfl, l, _, rfl, .inl (SqL.of (s2 _ _ hl)), fun l2 hl2 => ?_⟩
    have n2 : x ≠ l2 := fun z => by subst z; rw [upd_same] at hl2; cases hl2
    have s3 := same_upd s2 (o := .lst (IL t)) (s2.free hl2)
    refine ⟨_, rfl, x, C, dx, _, rfl, (upd_ne n2).trans upd_same, T.cl_P hC, na.2.2.1, by simp, ?_⟩
    rw [putF_ne (by decide), putF_ne (by decide), putF_nil]
    have s4 := same_upd s3 (o := .ins C dx [("left_edge", .str (sOf a)), ("upper_edge", .str (sOf b)), ("known", .ref l2)]) hx0
    refine ⟨_, rfl, m, _, rfl, .inl (SqL.of (s4 _ _ hm)), fun m2 hm2 => ?_⟩
    have n3 : x ≠ m2 := fun z => by subst z; rw [upd_same] at hm2; cases hm2
    have s5 := same_upd s4 (o := .lst (RL ps)) (s4.free hm2)
    refine ⟨_, rfl, x, C, dx, _, rfl, (upd_ne n3).trans upd_same, T.cl_P hC, na.2.2.2.1, by simp, ?_⟩
    rw [putF_ne (by decide), putF_ne (by decide), putF_ne (by decide), putF_nil]
    have s6 := same_upd s5 (o := .ins C dx [("left_edge", .str (sOf a)), ("upper_edge", .str (sOf b)), ("known", .ref l2), ("made_of", .ref m2)]) hx0
    refine ⟨_, rfl, x, C, dx, _, rfl, upd_same, T.cl_P hC, na.2.2.2.2, by simp, ?_⟩
    rw [putF_ne (by decide), putF_ne (by decide), putF_ne (by decide), putF_ne (by decide), putF_nil]
    have s7 := same_upd s6 (o := .ins C dx (pFs a b l2 m2 0)) hx0
    have n4 : l2 ≠ m2 := ne_of_none (o := .lst (IL t)) ((upd_ne n2.symm).trans upd_same) hm2
    refine ⟨_, rfl, m, rfl, ⟨_, SqL.of (s7 _ _ hm)⟩, for_list (K := K) (a := m) (xs := RL ps) (fun i σ H' => ∃ (v : Option V) (h : Int), σ = [some (.ref x), some (.ref Tp), some (.ref l), some (.ref m), v] ∧ Same (hide x H) H' ∧ H' x = some (.ins C dx (pFs a b l2 m2 h)) ∧ LAt H' l2 t)
      ⟨none, 0, rfl, s7, upd_same, ?_⟩ (fun i σ H' _ ⟨_, _, _, s, _⟩ => SqL.of (s _ _ hm)) ?_ ?_⟩
    · rw [LAt, upd_ne n2.symm, upd_ne n2.symm, upd_ne n4, upd_ne n2.symm, upd_same]
    · rintro i y σ H1 hi ⟨v, h, rfl, s, hx1, hl1⟩
      obtain ⟨hb, rfl⟩ := RL_at hi
      obtain ⟨a', b', t', hP⟩ := hps i hb
      have hP := hP.mono s
      obtain ⟨C2, dx2, l3, m3, h3, hC2, hp2, _⟩ := id hP
      refine ⟨_, rfl, x, C, dx, _, _, rfl, hx1, T.cl_P hC, na.2.2.2.2, rfl, _, rfl, _, C2, dx2, _, rfl, hp2, hC2, rfl, _, a', b', t', rfl, hP, fun h4 => ?_⟩
      refine ⟨_, _, rfl, rfl, _, _, rfl, _, rfl, x, C, dx, _, rfl, hx1, T.cl_P hC, na.2.2.2.2, by simp, ?_⟩
      rw [putF_ne (by decide), putF_ne (by decide), putF_ne (by decide), putF_ne (by decide), putF_eq]
      exact ⟨_, _, rfl, same_upd s hx0, upd_same, (upd_ne (fun z => by subst z; rw [LAt, hx1] at hl1; cases hl1)).trans hl1⟩
    · rintro σ H1 ⟨v, h, rfl, s, hx1, hl1⟩
      exact k _ s ⟨C, dx, l2, m2, h, hC, hx1, hl1, ok, ra, rb⟩
theorem ci_Piece {P : Program} {w : World} {K : PySem.W.Frag} {mg : Str → Option Value} {base : Heap} (T : Tx K mg) : Ci P w K mg base "Piece" ["self", "rows", "turning", "made_of"] (2) (sp_Piece_init K) := by
  obtain ⟨fd, F⟩ := T.D_Piece_init
  obtain ⟨b, G⟩ := fn_Piece_init (P := P) (w := w) (base := base) T F
  exact ⟨_, _, fd, T.g_Piece, T.rd_Piece, T.cv_Piece, F.kp, b, G⟩
end Pt
end
section
set_option maxRecDepth 100000
set_option maxHeartbeats 4000000
namespace Pt
open PySem PySem.Spec PyProof.Rows L2
theorem iteR {c A B : Prop} [Decidable c] (b : B) (a : c → B → A) : if c then A else B := by
  split
  · exact a ‹_› b
  · exact b
def sp_need_piece (K : PySem.W.Frag) : Sp := fun vs H Q _ => ∃ (p : Addr) (a b t : List Nat), vs = [.ref p] ∧ PieceAt K H p a b t ∧ Q .non H
abbrev sc_need_piece_N : List Str := ["thing"]
theorem sc_need_piece : FnScope sc_need_piece_N ["thing"] (defScope s_need_piece) := ⟨rfl, rfl, rfl, by decide +kernel, rfl, by decide +kernel, by decide +kernel⟩
theorem ok_need_piece {P : Program} {w : World} {K : PySem.W.Frag} {mg : Str → Option Value} {base : Heap} (T : Tx K mg) : Fn P w K mg base "need_piece" ["thing"] (1) (sp_need_piece K) := by
  obtain ⟨fd, F⟩ := T.D_need_piece
  refine ⟨_, fd, T.g_need_piece, F.kp, F.bindsN (fun _ _ _ _ _ _ us hl => match us, hl with | [_], _ => rfl), F.ok sc_need_piece (fun vs H Q E h => ?_) (fun cdv A outer s H vs Q E hr h => ?_)⟩
  · (obtain ⟨p, a, b, t, rfl, ⟨C, dx, l, m, h, hC, hp, hl, ok, ra, rb⟩, k⟩ := h)
    rfl
  · (obtain ⟨p, a, b, t, rfl, ⟨C, dx, l, m, h, hC, hp, hl, ok, ra, rb⟩, k⟩ := h)
    refine ⟨_, PSs.nox (pss_one (ps_if (pt_not (pt_val (pe_callB call_isi (by rfl) T.z_isinstance (by decide +kernel) (pa_cons (pv 0) (pa_cons (pe_glob (v := .ref (He.ga K "Piece")) rfl T.g_Piece rfl) pa_nil))))) (pss_one ps_never) pss_nil)), ?_⟩
    exact ⟨_, rfl, _, _, _, _, _, rfl, .own _, .base (T.tyP hC hp), (T.kitP hC).1, _, rfl, iteF k⟩
theorem letS (c : Nat) : sOf [c] = ⟨#[c]⟩ := rfl
def sp_need_sign_pieces : Sp := fun vs H Q _ => ∃ c : Nat, vs = [.str (sOf [c])] ∧ (isLet c ∨ c = 46) ∧ Q .non H
abbrev sc_need_sign_pieces_N : List Str := ["sign"]
theorem sc_need_sign_pieces : FnScope sc_need_sign_pieces_N ["sign"] (defScope s_need_sign_pieces) := ⟨rfl, rfl, rfl, by decide +kernel, rfl, by decide +kernel, by decide +kernel⟩
theorem ok_need_sign_pieces {P : Program} {w : World} {K : PySem.W.Frag} {mg : Str → Option Value} {base : Heap} (T : Tx K mg) : Fn P w K mg base "need_sign_pieces" ["sign"] (2) sp_need_sign_pieces := by
  obtain ⟨fd, F⟩ := T.D_need_sign_pieces
  refine ⟨_, fd, T.g_need_sign_pieces, F.kp, F.bindsN (fun _ _ _ _ _ _ us hl => match us, hl with | [_], _ => rfl), F.ok sc_need_sign_pieces (fun vs H Q E h => ?_) (fun cdv A outer s H vs Q E hr h => ?_)⟩
  · (obtain ⟨c, rfl, hc, k⟩ := h)
    rfl
  · (obtain ⟨c, rfl, hc, k⟩ := h)
    refine ⟨_, PSs.nox (pss_one (ps_if (PW.pt (pw_and (pt_not (pt_val (pe_fn (ok_is_letter T) (hr.mono (by decide)) (pa_cons (pv 0) pa_nil)))) (pw_and1 (pt_cmpR op_ne (pv 0) pe_str (nomark _))))) (pss_one ps_never) pss_nil)), ?_⟩
    refine ⟨_, rfl, c, rfl, fun b hb => ?_⟩
    cases b with
    | true => exact ⟨_, rfl, iteF k⟩
    | false =>
      have : c = 46 := hc.resolve_left fun z => Bool.false_ne_true (hb.mpr z)
      exact ⟨_, rfl, iteT ⟨_, rfl, rfl, _, rfl, iteNF (dot_eq.mpr this) k⟩⟩
theorem emp_eq {l : List Nat} : (V.str (sOf l) = V.str "") ↔ l = [] := by
  rw [sOf_nil]
  constructor
  · intro h; exact sOf_inj (V.str.inj h)
  · rintro rfl; rfl
theorem zlen {l : List Nat} (h : Row l) : (sOf l).length ≤ sizeLine := by rw [sOf_len]; exact big _ (by have := h.1; omega)
def sp_Blank_init (K : PySem.W.Frag) : Sp := fun vs H Q _ => ∃ (x dx : Addr) (a b : List Nat), vs = [.ref x, .str (sOf a), .str (sOf b)] ∧ H x = some (.ins (He.ga K "Blank") dx []) ∧ Row a ∧ Row b ∧ (a = [] ∨ b = []) ∧ ∀ H', Same (hide x H) H' → (∃ t, PieceAt K H' x a b t) → Q .non H'
abbrev sc_Blank_init_N : List Str := ["self", "side", "top"]
theorem sc_Blank_init : FnScope sc_Blank_init_N ["self", "side", "top"] (defScope s_Blank_init) := ⟨rfl, rfl, rfl, by decide +kernel, rfl, by decide +kernel, by decide +kernel⟩
theorem fn_Blank_init {P : Program} {w : World} {K : PySem.W.Frag} {mg : Str → Option Value} {base : Heap} (T : Tx K mg) {f : Addr} {fd : FuncData} (F : FunD K "__init__" "Blank.__init__" (defArgs s_Blank_init) (defBody s_Blank_init) (defScope s_Blank_init) [] [] f fd) : Binds K fd ["self", "side", "top"] [] ∧ FnOk P w K mg base CX0 (5) f fd ["self", "side", "top"] (sp_Blank_init K) := by
  refine ⟨F.bindsN (fun _ _ _ _ _ _ us hl => match us, hl with | [_, _, _], _ => rfl), F.ok sc_Blank_init (fun vs H Q E h => ?_) (fun cdv A outer s H vs Q E hr h => ?_)⟩
  · (obtain ⟨x, dx, a, b, rfl, hx, ra, rb, hab, k⟩ := h)
    rfl
  · (obtain ⟨x, dx, a, b, rfl, hx, ra, rb, hab, k⟩ := h)
    refine ⟨_, PSs.nox (pss_cons (ps_expr (pe_fn (ok_need_rows T) (hr.mono (by decide)) (pa_cons (pv 1) (pa_cons (pv 2) pa_nil))))
      (pss_cons (ps_if (PW.pt (pw_and (pt_cmpR op_ne (pv 1) pe_str (nomark _)) (pw_and1 (pt_cmpR op_ne (pv 2) pe_str (nomark _))))) (pss_one ps_never) pss_nil)
      (pss_one (ps_expr (pe_ci (ci_Piece T) (hr.mono (by decide)) (pa_cons (pv 0) (pa_cons (pe_tup (pa_cons (pv 1) (pa_cons (pv 2) pa_nil))) (pa_cons (pe_fn (ok_straight T) (hr.mono (by decide)) (pa_cons (pe_op op_add (pe_callB call_len_str (by rfl) T.z_len (by decide +kernel) (pa_cons (pv 1) pa_nil)) (pe_callB call_len_str (by rfl) T.z_len (by decide +kernel) (pa_cons (pv 2) pa_nil))) pa_nil)) (pa_cons (pe_lst pa_nil) pa_nil))))))))), ?_⟩
    have ok : PtM.PcOk a b (List.range (a.length + b.length)) := by
      rcases hab with rfl | rfl
      · have := PtM.pc_nil_side b; simpa using this
      · have := PtM.pc_nil_top a; simpa using this
    have la := ra.1
    have lb := rb.1
    refine ⟨_, rfl, _, rfl, a, b, rfl, ra, rb, fun v H1 s1 e => ?_⟩
    have hx1 := s1 _ _ hx
    refine ⟨_, rfl, rfl, _, rfl, iteR ?_ (fun hc B => ?_)⟩
    · refine ⟨_, rfl, _, rfl, _, rfl, (by show 2 ≤ sizeLine; decide), fun p hp => ?_⟩
      have s2 := same_upd s1 (o := .tup [.str (sOf a), .str (sOf b)]) (s1.free hp)
      refine ⟨_, rfl, _, rfl, zlen ra, _, rfl, _, rfl, zlen rb, _, _, rfl, rfl, a.length + b.length, by rw [sOf_len, sOf_len]; rfl, by omega, ?_⟩
      rintro v3 H3 s3 ⟨l, rfl, hl, hL⟩
      have s4 := s2.trans s3
      refine ⟨Nat.zero_le _, fun m hm => ?_⟩
      have s5 := same_upd s4 (o := .lst []) (s4.free hm)
      have hx5 := s5 _ _ hx
      refine ⟨x, p, l, m, _, dx, a, b, _, [], rfl, .inl rfl, hx5, hide_ne hx5 ((upd_ne (ne_of_none (s3 _ _ upd_same) hm)).trans (s3 _ _ upd_same)) (fun z => by cases z), hide_ne hx5 ((upd_ne (ne_of_none hL hm)).trans hL) (fun z => by cases z), hide_ne hx5 upd_same (fun z => by cases z), fun i hi => absurd hi (by simp), ok, ra, rb, fun H' s' hP => ?_⟩
      exact k _ ((hide_same s5).trans s') ⟨_, hP⟩
    · refine ⟨_, rfl, rfl, _, rfl, iteNF ?_ B⟩
      refine emp_eq.mpr (hab.resolve_left fun z => ?_)
      rw [decide_eq_true (emp_eq.mpr z)] at hc
      cases hc
theorem new_Blank {P : Program} {w : World} {K : PySem.W.Frag} {mg : Str → Option Value} {base : Heap} (T : Tx K mg) : Nw P w K mg base "Blank" (He.ga K "Blank") ["self", "side", "top"] (5) (sp_Blank_init K) := by
  obtain ⟨fd, F⟩ := T.D_Blank_init
  obtain ⟨b, G⟩ := fn_Blank_init (P := P) (w := w) (base := base) T F
  exact ⟨_, fd, T.g_Blank, T.mk_Blank, b, G⟩
theorem one_row {c : Nat} (h : isLet c ∨ c = 46) : Row [c] := ⟨by simp, fun x hx => by
  have : x = c := by simpa using hx
  rw [this]
  exact h⟩
def sp_One_init (K : PySem.W.Frag) : Sp := fun vs H Q _ => ∃ (x dx : Addr) (a b : Nat), vs = [.ref x, .str (sOf [a]), .str (sOf [b])] ∧ H x = some (.ins (He.ga K "One") dx []) ∧ (isLet a ∨ a = 46) ∧ (isLet b ∨ b = 46) ∧ ∀ H', Same (hide x H) H' → (∃ t, PieceAt K H' x [a] [b] t) → Q .non H'
abbrev sc_One_init_N : List Str := ["self", "letter", "sign", "turning"]
theorem sc_One_init : FnScope sc_One_init_N ["self", "letter", "sign"] (defScope s_One_init) := ⟨rfl, rfl, rfl, by decide +kernel, rfl, by decide +kernel, by decide +kernel⟩
theorem fn_One_init {P : Program} {w : World} {K : PySem.W.Frag} {mg : Str → Option Value} {base : Heap} (T : Tx K mg) {f : Addr} {fd : FuncData} (F : FunD K "__init__" "One.__init__" (defArgs s_One_init) (defBody s_One_init) (defScope s_One_init) [] [] f fd) : Binds K fd ["self", "letter", "sign"] [] ∧ FnOk P w K mg base CX0 (3) f fd ["self", "letter", "sign"] (sp_One_init K) := by
  refine ⟨F.bindsN (fun _ _ _ _ _ _ us hl => match us, hl with | [_, _, _], _ => rfl), F.ok sc_One_init (fun vs H Q E h => ?_) (fun cdv A outer s H vs Q E hr h => ?_)⟩
  · (obtain ⟨x, dx, a, b, rfl, hx, ra, rb, k⟩ := h)
    rfl
  · (obtain ⟨x, dx, a, b, rfl, hx, ra, rb, k⟩ := h)
    refine ⟨_, PSs.nox (pss_cons (ps_expr (pe_fn (ok_need_sign_pieces T) (hr.mono (by decide)) (pa_cons (pv 1) pa_nil)))
      (pss_cons (ps_expr (pe_fn (ok_need_sign_pieces T) (hr.mono (by decide)) (pa_cons (pv 2) pa_nil)))
      (pss_cons (ps_set (i := 3) sc_One_init.nd rfl (Or.inl rfl) (pe_lst (pa_cons pe_int (pa_cons pe_int pa_nil))))
      (pss_cons (ps_if (pt_cmpR op_eq (pv 1) (pv 2) (nomark _)) (pss_one (ps_set (i := 3) sc_One_init.nd rfl (Or.inl rfl) (pe_lst (pa_cons pe_int (pa_cons pe_int pa_nil))))) pss_nil)
      (pss_one (ps_expr (pe_ci (ci_Piece T) (hr.mono (by decide)) (pa_cons (pv 0) (pa_cons (pe_tup (pa_cons (pv 1) (pa_cons (pv 2) pa_nil))) (pa_cons (pv 3) (pa_cons (pe_lst pa_nil) pa_nil))))))))))), ?_⟩
    have ok := PtM.pc_one a b
    refine ⟨_, rfl, a, rfl, ra, _, rfl, b, rfl, rb, ?_⟩
    refine ⟨(by show 2 ≤ sizeLine; decide), fun q hq => ?_⟩
    have s1 := same_new (o := .lst [.int 1, .int 0]) hq
    by_cases c : a = b
    · subst c
      rw [if_pos rfl] at ok
      refine ⟨_, rfl, _, rfl, rfl, _, rfl, iteDT rfl ⟨(by show 2 ≤ sizeLine; decide), fun q2 hq2 => ?_⟩⟩
      have s2 := same_upd s1 (o := .lst [.int 0, .int 1]) (s1.free hq2)
      refine ⟨_, rfl, _, rfl, _, rfl, (by show 2 ≤ sizeLine; decide), fun p hp => ?_⟩
      have s3 := same_upd s2 (o := .tup [.str (sOf [a]), .str (sOf [a])]) (s2.free hp)
      refine ⟨_, rfl, Nat.zero_le _, fun m hm => ?_⟩
      have s4 := same_upd s3 (o := .lst []) (s3.free hm)
      have hx4 := s4 _ _ hx
      have n1 : q2 ≠ p := ne_of_none upd_same hp
      have n2 : p ≠ m := ne_of_none upd_same hm
      have n3 : q2 ≠ m := ne_of_none ((upd_ne n1).trans upd_same) hm
      refine ⟨x, p, q2, m, _, dx, [a], [a], _, [], rfl, .inr (.inl rfl), hx4, hide_ne hx4 ((upd_ne n2).trans upd_same) (fun z => by cases z), hide_ne (o' := .lst (IL [0, 1])) hx4 ((upd_ne n3).trans ((upd_ne n1).trans upd_same)) (fun z => by cases z), hide_ne hx4 upd_same (fun z => by cases z), fun i hi => absurd hi (by simp), ok, one_row ra, one_row ra, fun H' s' hP => ?_⟩
      exact k _ ((hide_same s4).trans s') ⟨_, hP⟩
    · rw [if_neg c] at ok
      refine ⟨_, rfl, _, rfl, rfl, _, rfl, iteDF (fun z => c (by have := sOf_inj (V.str.inj z); simpa using this)) ?_⟩
      refine ⟨_, rfl, _, rfl, _, rfl, (by show 2 ≤ sizeLine; decide), fun p hp => ?_⟩
      have s3 := same_upd s1 (o := .tup [.str (sOf [a]), .str (sOf [b])]) (s1.free hp)
      refine ⟨_, rfl, Nat.zero_le _, fun m hm => ?_⟩
      have s4 := same_upd s3 (o := .lst []) (s3.free hm)
      have hx4 := s4 _ _ hx
      have n1 : q ≠ p := ne_of_none upd_same hp
      have n2 : p ≠ m := ne_of_none upd_same hm
      have n3 : q ≠ m := ne_of_none ((upd_ne n1).trans upd_same) hm
      refine ⟨x, p, q, m, _, dx, [a], [b], _, [], rfl, .inr (.inl rfl), hx4, hide_ne hx4 ((upd_ne n2).trans upd_same) (fun z => by cases z), hide_ne (o' := .lst (IL [1, 0])) hx4 ((upd_ne n3).trans ((upd_ne n1).trans upd_same)) (fun z => by cases z), hide_ne hx4 upd_same (fun z => by cases z), fun i hi => absurd hi (by simp), ok, one_row ra, one_row rb, fun H' s' hP => ?_⟩
      exact k _ ((hide_same s4).trans s') ⟨_, hP⟩
theorem new_One {P : Program} {w : World} {K : PySem.W.Frag} {mg : Str → Option Value} {base : Heap} (T : Tx K mg) : Nw P w K mg base "One" (He.ga K "One") ["self", "letter", "sign"] (3) (sp_One_init K) := by
  obtain ⟨fd, F⟩ := T.D_One_init
  obtain ⟨b, G⟩ := fn_One_init (P := P) (w := w) (base := base) T F
  exact ⟨_, fd, T.g_One, T.mk_One, b, G⟩
theorem Row.app {a b : List Nat} (h : Row a) (h' : Row b) (hl : a.length + b.length ≤ 48) : Row (a ++ b) := ⟨by simpa using hl, fun c hc => (List.mem_append.mp hc).elim (h.2 c) (h'.2 c)⟩
theorem rg_from (n k : Nat) : rgV (n : Int) ((n + k : Nat) : Int) = IL (PtM.from_ n k) := by
  unfold rgV PtM.from_
  have e : (((n + k : Nat) : Int) - (n : Int)).toNat = k := by omega
  rw [e]
  simp [IL, nV, Function.comp_def]
theorem IL_app (a b : List Nat) : IL a ++ IL b = IL (a ++ b) := by simp [IL]
theorem shift_eq (n : Nat) (t : List Nat) : rgV 0 (n : Int) ++ (List.range (IL t).length).map (fun i => nV (n + t.getD i 0)) = IL (List.range n ++ t.map fun x => n + x) := by
  rw [rg_nat, ← IL_app]
  congr 1
  refine List.ext_getElem (by simp) fun i h1 h2 => ?_
  have hi : i < t.length := by simpa using h1
  simp [IL, List.getD, hi]
def sp_Over_init (K : PySem.W.Frag) : Sp := fun vs H Q _ => ∃ (x dx u l : Addr) (a1 a2 b t1 t2 : List Nat), vs = [.ref x, .ref u, .ref l] ∧ H x = some (.ins (He.ga K "Over") dx []) ∧ PieceAt K (hide x H) u a1 b t1 ∧ PieceAt K (hide x H) l a2 b t2 ∧ a1.length + a2.length ≤ 48 ∧
  ∀ H', Same (hide x H) H' → (∃ t, PieceAt K H' x (a1 ++ a2) b t) → Q .non H'
abbrev sc_Over_init_N : List Str := ["self", "upper", "lower", "side", "shift", "first", "second", "goal"]
theorem sc_Over_init : FnScope sc_Over_init_N ["self", "upper", "lower"] (defScope s_Over_init) := ⟨rfl, rfl, rfl, by decide +kernel, rfl, by decide +kernel, by decide +kernel⟩
theorem fn_Over_init {P : Program} {w : World} {K : PySem.W.Frag} {mg : Str → Option Value} {base : Heap} (T : Tx K mg) {f : Addr} {fd : FuncData} (F : FunD K "__init__" "Over.__init__" (defArgs s_Over_init) (defBody s_Over_init) (defScope s_Over_init) [] [] f fd) : Binds K fd ["self", "upper", "lower"] [] ∧ FnOk P w K mg base CX0 (8) f fd ["self", "upper", "lower"] (sp_Over_init K) := by
  refine ⟨F.bindsN (fun _ _ _ _ _ _ us hl => match us, hl with | [_, _, _], _ => rfl), F.ok sc_Over_init (fun vs H Q E h => ?_) (fun cdv A outer s H vs Q E hr h => ?_)⟩
  · (obtain ⟨x, dx, u, l, a1, a2, b, t1, t2, rfl, hx, hu, hl, hz, k⟩ := h)
    rfl
  · (obtain ⟨x, dx, u, l, a1, a2, b, t1, t2, rfl, hx, hu, hl, hz, k⟩ := h)
    refine ⟨_, PSs.nox (pss_cons (ps_expr (pe_fn (ok_need_piece T) (hr.mono (by decide)) (pa_cons (pv 1) pa_nil)))
      (pss_cons (ps_expr (pe_fn (ok_need_piece T) (hr.mono (by decide)) (pa_cons (pv 2) pa_nil)))
      (pss_cons (ps_if (pt_cmpR op_ne (pe_ms0 (pv 1) (ok_Piece_top T) (hr.mono (by decide))) (pe_ms0 (pv 2) (ok_Piece_top T) (hr.mono (by decide))) (nomark _)) (pss_one ps_never) pss_nil)
      (pss_cons (ps_set (i := 3) sc_Over_init.nd rfl (Or.inl rfl) (pe_op op_add_str (pe_ms0 (pv 1) (ok_Piece_side T) (hr.mono (by decide))) (pe_ms0 (pv 2) (ok_Piece_side T) (hr.mono (by decide)))))
      (pss_cons (ps_if (pt_cmpR op_gt (pe_callB call_len_str (by rfl) T.z_len (by decide +kernel) (pa_cons (pv 3) pa_nil)) (pe_glob (v := .int 48) rfl (Classical.choose_spec T.c_MOST_SIGNS) ⟨_, rfl⟩) (nomark _)) (pss_one ps_never) pss_nil)
      (pss_cons (ps_set (i := 4) sc_Over_init.nd rfl (Or.inr rfl) (pe_callB call_len_str (by rfl) T.z_len (by decide +kernel) (pa_cons (pe_ms0 (pv 2) (ok_Piece_side T) (hr.mono (by decide))) pa_nil)))
      (pss_cons (ps_set (i := 5) sc_Over_init.nd rfl (Or.inl rfl) (pe_op op_cat (pe_listRg rfl rfl T.z_list (prg_1 rfl T.z_range (pv 4))) (pe_lc (own := [("goal", 7)]) rfl sc_Over_init.nd (pi_list (pe_ms0 (pv 1) (ok_Piece_lines T) (hr.mono (by decide)))) (blkOk_by (N := sc_Over_init_N) (sc := defScope s_Over_init) (by decide +kernel)) (fun _ _ _ _ _ => (pg_name (i := 7) sc_Over_init.nd rfl (Or.inl rfl))) (fun _ _ _ _ _ => pts_nil) (fun _ _ _ _ _ => (pe_op op_add (pv 4) (pv 7))))))
      (pss_cons (ps_set (i := 6) sc_Over_init.nd rfl (Or.inl rfl) (pe_op op_cat (pe_ms0 (pv 2) (ok_Piece_lines T) (hr.mono (by decide))) (pe_listRg rfl rfl T.z_list (prg_2 rfl T.z_range (pe_callB call_len_seq (by rfl) T.z_len (by decide +kernel) (pa_cons (pe_ms0 (pv 2) (ok_Piece_lines T) (hr.mono (by decide))) pa_nil)) (pe_callB call_len_seq (by rfl) T.z_len (by decide +kernel) (pa_cons (pv 5) pa_nil))))))
      (pss_one (ps_expr (pe_ci (ci_Piece T) (hr.mono (by decide)) (pa_cons (pv 0) (pa_cons (pe_tup (pa_cons (pv 3) (pa_cons (pe_ms0 (pv 1) (ok_Piece_top T) (hr.mono (by decide))) pa_nil))) (pa_cons (pe_fn (ok_laid T) (hr.mono (by decide)) (pa_cons (pv 5) (pa_cons (pv 6) pa_nil))) (pa_cons (pe_lst (pa_cons (pv 1) (pa_cons (pv 2) pa_nil))) pa_nil))))))))))))))), ?_⟩
    have hu1 := hu.mono unhide
    have hl1 := hl.mono unhide
    obtain ⟨Cu, dxu, lu, mu, eu, hCu, pu, lau, oku, ra1, rb⟩ := id hu1
    obtain ⟨Cl, dxl, ll, ml, el, hCl, pl, lal, okl, ra2, _⟩ := id hl1
    have L1 := hu1.len
    have L2 := hl1.len
    have b1 := ra1.1
    have b2 := ra2.1
    have b3 := rb.1
    refine ⟨_, rfl, u, a1, b, t1, rfl, hu1, _, rfl, l, a2, b, t2, rfl, hl1, ?_⟩
    refine ⟨_, rfl, u, Cu, dxu, _, rfl, pu, hCu, rfl, u, a1, b, t1, rfl, hu1, _, rfl, l, Cl, dxl, _, rfl, pl, hCl, rfl, l, a2, b, t2, rfl, hl1, rfl, _, rfl, iteNF rfl ?_⟩
    refine ⟨_, rfl, u, Cu, dxu, _, rfl, pu, hCu, rfl, u, a1, b, t1, rfl, hu1, _, rfl, l, Cl, dxl, _, rfl, pl, hCl, rfl, l, a2, b, t2, rfl, hl1, _, _, rfl, rfl, Nat.le_trans (m := 100000) (by rw [sOf_len, sOf_len]; omega) (by decide), ?_⟩
    rw [sOf_app]
    have ra := ra1.app ra2 hz
    refine ⟨_, rfl, _, rfl, zlen ra, _, _, rfl, rfl, _, rfl, iteDF (by rw [sOf_len, List.length_append]; omega) ?_⟩
    refine ⟨_, rfl, l, Cl, dxl, _, rfl, pl, hCl, rfl, l, a2, b, t2, rfl, hl1, _, rfl, zlen ra2, ?_⟩
    rw [sOf_len]
    -- first
    refine ⟨_, rfl, _, rfl, RgOk.of_le (by omega) (by omega) (by omega) (by omega), fun q1 hq1 => ?_⟩
    have s1 := same_new (o := .lst (rgV 0 (a2.length : Int))) hq1
    refine ⟨_, rfl, u, Cu, dxu, _, rfl, s1 _ _ pu, hCu, rfl, u, a1, b, t1, rfl, hu1.mono s1, fun q2 hq2 => ?_⟩
    have s2 := same_upd s1 (o := .lst (IL t1)) (s1.free hq2)
    refine ⟨q2, rfl, ⟨_, SqL.of upd_same⟩, fun D hD => lcV (walk_list (xs := IL t1)) (by simp; omega) hD (fun i => nV (a2.length + t1.getD i 0)) (fun H' s' => SqL.of (s' _ _ upd_same)) ?_ ?_⟩
    · rintro i y H1 H2 Q' hi s ⟨rfl, hy⟩ k'
      obtain ⟨hb, rfl⟩ := IL_at hy
      exact ⟨rfl, _, rfl, _, rfl, _, _, rfl, rfl, k' _ (Same.refl _)⟩
    · intro H3 s3 hD3
      have s4 := s2.trans s3
      have n12 : q1 ≠ q2 := ne_of_none upd_same hq2
      have hq13 : H3 q1 = some (.lst (rgV 0 (a2.length : Int))) := s3 _ _ ((upd_ne n12).trans upd_same)
      refine ⟨q1, D, _, _, rfl, rfl, hq13, hD3, big _ (by rw [rgV_length]; simp; omega), fun f hf => ?_⟩
      rw [shift_eq]
      have s5 := same_upd s4 (o := .lst (IL (List.range a2.length ++ t1.map fun x => a2.length + x))) (s4.free hf)
      refine ⟨_, rfl, l, Cl, dxl, _, rfl, s5 _ _ pl, hCl, rfl, l, a2, b, t2, rfl, hl1.mono s5, fun r1 hr1 => ?_⟩
      have s6 := same_upd s5 (o := .lst (IL t2)) (s5.free hr1)
      refine ⟨_, rfl, l, Cl, dxl, _, rfl, s6 _ _ pl, hCl, rfl, l, a2, b, t2, rfl, hl1.mono s6, fun r2 hr2 => ?_⟩
      have s7 := same_upd s6 (o := .lst (IL t2)) (s6.free hr2)
      have m1 : f ≠ r1 := ne_of_none upd_same hr1
      have m2 : f ≠ r2 := ne_of_none ((upd_ne m1).trans upd_same) hr2
      have m3 : r1 ≠ r2 := ne_of_none upd_same hr2
      have hf7 := (upd_ne m2 (o := .lst (IL t2))).trans ((upd_ne m1 (o := .lst (IL t2))).trans (upd_same (H := H3) (o := .lst (IL (List.range a2.length ++ t1.map fun x => a2.length + x)))))
      obtain ⟨F, hF⟩ : ∃ F, F = List.range a2.length ++ t1.map (fun x => a2.length + x) := ⟨_, rfl⟩
      rw [← hF] at s5 s6 s7 hf7 hr1 hr2 ⊢
      have lF : F.length = t2.length + a1.length := by rw [hF]; simp; omega
      refine ⟨r2, _, rfl, .inl (SqL.of upd_same), _, rfl, f, _, rfl, .inl (SqL.of hf7), _, _, rfl, rfl, RgOk.of_le (by omega) (by simp; omega) (by simp; omega) (by omega), fun r3 hr3 => ?_⟩
      have eR : rgV ((IL t2).length : Int) ((IL F).length : Int) = IL (PtM.from_ t2.length a1.length) := by
        have e1 : (IL t2).length = t2.length := by simp
        have e2 : (IL F).length = t2.length + a1.length := by simp [lF]
        rw [e1, e2, rg_from]
      rw [eR]
      have s8 := same_upd s7 (o := .lst (IL (PtM.from_ t2.length a1.length))) (s7.free hr3)
      have hr18 := (upd_ne (ne_of_none ((upd_ne m3).trans upd_same) hr3) (o := .lst (IL (PtM.from_ t2.length a1.length)))).trans ((upd_ne m3 (o := .lst (IL t2))).trans (upd_same (H := upd H3 f (.lst (IL F))) (o := .lst (IL t2))))
      refine ⟨r1, r3, _, _, rfl, rfl, hr18, upd_same, big _ (by simp [PtM.from_len]; omega), fun g hg => ?_⟩
      rw [IL_app]
      obtain ⟨S, hS⟩ : ∃ S, S = t2 ++ PtM.from_ t2.length a1.length := ⟨_, rfl⟩
      rw [← hS]
      have lS : S.length = t2.length + a1.length := by rw [hS]; simp [PtM.from_len]
      have s9 := same_upd s8 (o := .lst (IL S)) (s8.free hg)
      have hf8 := (upd_ne (ne_of_none hf7 hr3) (o := .lst (IL (PtM.from_ t2.length a1.length)))).trans hf7
      have hf9 := (upd_ne (ne_of_none hf8 hg) (o := .lst (IL S))).trans hf8
      -- Piece.__init__
      refine ⟨_, rfl, _, rfl, _, rfl, u, Cu, dxu, _, rfl, s9 _ _ pu, hCu, rfl, u, a1, b, t1, rfl, hu1.mono s9, (by show 2 ≤ sizeLine; decide), fun p hp => ?_⟩
      have s10 := same_upd s9 (o := .tup [.str (sOf (a1 ++ a2)), .str (sOf b)]) (s9.free hp)
      have hf10 := (upd_ne (ne_of_none hf9 hp) (o := .tup [.str (sOf (a1 ++ a2)), .str (sOf b)])).trans hf9
      refine ⟨_, rfl, _, rfl, f, g, F, S, rfl, hf10, (same_new hp) _ _ upd_same, by rw [hF]; exact PtM.turn_pre oku.turn, by rw [hS]; exact PtM.turn_app okl.turn rfl, by omega, by omega, ?_⟩
      rintro v11 H11 s11 ⟨r, st, rfl, hr, hrL, hst⟩
      have s12 := s10.trans s11
      refine ⟨_, rfl, _, rfl, (by show 2 ≤ sizeLine; decide), fun m hm => ?_⟩
      have s13 := same_upd s12 (o := .lst (RL [u, l])) (s12.free hm)
      have hx13 := s13 _ _ hx
      have hp11 := s11 _ _ (upd_same (a := p) (o := .tup [.str (sOf (a1 ++ a2)), .str (sOf b)]))
      have ok := PtM.pc_over oku okl (hS ▸ hst)
      rw [← hF] at ok
      refine ⟨x, p, r, m, _, dx, a1 ++ a2, b, _, [u, l], rfl, .inr (.inr (.inl rfl)), hx13, hide_ne hx13 ((upd_ne (ne_of_none hp11 hm)).trans hp11) (fun z => by cases z), hide_ne hx13 ((upd_ne (ne_of_none hrL hm)).trans hrL) (fun z => by cases z), hide_ne hx13 upd_same (fun z => by cases z), ?_, ok, ra, rb, fun H' s' hP => ?_⟩
      · intro i hi
        have : i = 0 ∨ i = 1 := by simp at hi; omega
        rcases this with rfl | rfl
        · exact ⟨_, _, _, hu.mono (hide_same s13)⟩
        · exact ⟨_, _, _, hl.mono (hide_same s13)⟩
      · exact k _ ((hide_same s13).trans s') ⟨_, hP⟩
theorem new_Over {P : Program} {w : World} {K : PySem.W.Frag} {mg : Str → Option Value} {base : Heap} (T : Tx K mg) : Nw P w K mg base "Over" (He.ga K "Over") ["self", "upper", "lower"] (8) (sp_Over_init K) := by
  obtain ⟨fd, F⟩ := T.D_Over_init
  obtain ⟨b, G⟩ := fn_Over_init (P := P) (w := w) (base := base) T F
  exact ⟨_, fd, T.g_Over, T.mk_Over, b, G⟩
def sp_Beside_init (K : PySem.W.Frag) : Sp := fun vs H Q _ => ∃ (x dx u l : Addr) (c : Nat) (b1 b2 t1 t2 : List Nat), vs = [.ref x, .ref u, .ref l] ∧ H x = some (.ins (He.ga K "Beside") dx []) ∧ PieceAt K (hide x H) u [c] b1 t1 ∧ PieceAt K (hide x H) l [c] b2 t2 ∧ b1.length + b2.length ≤ 48 ∧
  ∀ H', Same (hide x H) H' → (∃ t, PieceAt K H' x [c] (b1 ++ b2) t) → Q .non H'
abbrev sc_Beside_init_N : List Str := ["self", "left", "right", "top", "shift", "second", "first", "goal"]
theorem sc_Beside_init : FnScope sc_Beside_init_N ["self", "left", "right"] (defScope s_Beside_init) := ⟨rfl, rfl, rfl, by decide +kernel, rfl, by decide +kernel, by decide +kernel⟩
theorem fn_Beside_init {P : Program} {w : World} {K : PySem.W.Frag} {mg : Str → Option Value} {base : Heap} (T : Tx K mg) {f : Addr} {fd : FuncData} (F : FunD K "__init__" "Beside.__init__" (defArgs s_Beside_init) (defBody s_Beside_init) (defScope s_Beside_init) [] [] f fd) : Binds K fd ["self", "left", "right"] [] ∧ FnOk P w K mg base CX0 (8) f fd ["self", "left", "right"] (sp_Beside_init K) := by
  refine ⟨F.bindsN (fun _ _ _ _ _ _ us hl => match us, hl with | [_, _, _], _ => rfl), F.ok sc_Beside_init (fun vs H Q E h => ?_) (fun cdv A outer s H vs Q E hr h => ?_)⟩
  · (obtain ⟨x, dx, u, l, c, b1, b2, t1, t2, rfl, hx, hu, hl, hz, k⟩ := h)
    rfl
  · (obtain ⟨x, dx, u, l, c, b1, b2, t1, t2, rfl, hx, hu, hl, hz, k⟩ := h)
    refine ⟨_, PSs.nox (pss_cons (ps_expr (pe_fn (ok_need_piece T) (hr.mono (by decide)) (pa_cons (pv 1) pa_nil)))
      (pss_cons (ps_expr (pe_fn (ok_need_piece T) (hr.mono (by decide)) (pa_cons (pv 2) pa_nil)))
      (pss_cons (ps_if (pt_cmpR op_ne (pe_ms0 (pv 1) (ok_Piece_side T) (hr.mono (by decide))) (pe_ms0 (pv 2) (ok_Piece_side T) (hr.mono (by decide))) (nomark _)) (pss_one ps_never) pss_nil)
      (pss_cons (ps_set (i := 3) sc_Beside_init.nd rfl (Or.inl rfl) (pe_op op_add_str (pe_ms0 (pv 1) (ok_Piece_top T) (hr.mono (by decide))) (pe_ms0 (pv 2) (ok_Piece_top T) (hr.mono (by decide)))))
      (pss_cons (ps_if (pt_cmpR op_gt (pe_callB call_len_str (by rfl) T.z_len (by decide +kernel) (pa_cons (pv 3) pa_nil)) (pe_glob (v := .int 48) rfl (Classical.choose_spec T.c_MOST_SIGNS) ⟨_, rfl⟩) (nomark _)) (pss_one ps_never) pss_nil)
      (pss_cons (ps_set (i := 4) sc_Beside_init.nd rfl (Or.inr rfl) (pe_callB call_len_str (by rfl) T.z_len (by decide +kernel) (pa_cons (pe_ms0 (pv 1) (ok_Piece_top T) (hr.mono (by decide))) pa_nil)))
      (pss_cons (ps_set (i := 5) sc_Beside_init.nd rfl (Or.inl rfl) (pe_op op_cat (pe_listRg rfl rfl T.z_list (prg_1 rfl T.z_range (pv 4))) (pe_lc (own := [("goal", 7)]) rfl sc_Beside_init.nd (pi_list (pe_ms0 (pv 2) (ok_Piece_lines T) (hr.mono (by decide)))) (blkOk_by (N := sc_Beside_init_N) (sc := defScope s_Beside_init) (by decide +kernel)) (fun _ _ _ _ _ => (pg_name (i := 7) sc_Beside_init.nd rfl (Or.inl rfl))) (fun _ _ _ _ _ => pts_nil) (fun _ _ _ _ _ => (pe_op op_add (pv 4) (pv 7))))))
      (pss_cons (ps_set (i := 6) sc_Beside_init.nd rfl (Or.inl rfl) (pe_op op_cat (pe_ms0 (pv 1) (ok_Piece_lines T) (hr.mono (by decide))) (pe_listRg rfl rfl T.z_list (prg_2 rfl T.z_range (pe_callB call_len_seq (by rfl) T.z_len (by decide +kernel) (pa_cons (pe_ms0 (pv 1) (ok_Piece_lines T) (hr.mono (by decide))) pa_nil)) (pe_callB call_len_seq (by rfl) T.z_len (by decide +kernel) (pa_cons (pv 5) pa_nil))))))
      (pss_one (ps_expr (pe_ci (ci_Piece T) (hr.mono (by decide)) (pa_cons (pv 0) (pa_cons (pe_tup (pa_cons (pe_ms0 (pv 1) (ok_Piece_side T) (hr.mono (by decide))) (pa_cons (pv 3) pa_nil))) (pa_cons (pe_fn (ok_laid T) (hr.mono (by decide)) (pa_cons (pv 6) (pa_cons (pv 5) pa_nil))) (pa_cons (pe_lst (pa_cons (pv 1) (pa_cons (pv 2) pa_nil))) pa_nil))))))))))))))), ?_⟩
    have hu1 := hu.mono unhide
    have hl1 := hl.mono unhide
    obtain ⟨Cu, dxu, lu, mu, eu, hCu, pu, lau, oku, ra, rb1⟩ := id hu1
    obtain ⟨Cl, dxl, ll, ml, el, hCl, pl, lal, okl, _, rb2⟩ := id hl1
    have L1 := hu1.len
    have L2 := hl1.len
    have lc1 : [c].length = 1 := rfl
    have z1 := rb1.1
    have z2 := rb2.1
    refine ⟨_, rfl, u, [c], b1, t1, rfl, hu1, _, rfl, l, [c], b2, t2, rfl, hl1, ?_⟩
    refine ⟨_, rfl, u, Cu, dxu, _, rfl, pu, hCu, rfl, u, [c], b1, t1, rfl, hu1, _, rfl, l, Cl, dxl, _, rfl, pl, hCl, rfl, l, [c], b2, t2, rfl, hl1, rfl, _, rfl, iteNF rfl ?_⟩
    refine ⟨_, rfl, u, Cu, dxu, _, rfl, pu, hCu, rfl, u, [c], b1, t1, rfl, hu1, _, rfl, l, Cl, dxl, _, rfl, pl, hCl, rfl, l, [c], b2, t2, rfl, hl1, _, _, rfl, rfl, Nat.le_trans (m := 100000) (by rw [sOf_len, sOf_len]; omega) (by decide), ?_⟩
    rw [sOf_app]
    have rb := rb1.app rb2 hz
    refine ⟨_, rfl, _, rfl, zlen rb, _, _, rfl, rfl, _, rfl, iteDF (by rw [sOf_len, List.length_append]; omega) ?_⟩
    refine ⟨_, rfl, u, Cu, dxu, _, rfl, pu, hCu, rfl, u, [c], b1, t1, rfl, hu1, _, rfl, zlen rb1, ?_⟩
    rw [sOf_len]
    -- second
    refine ⟨_, rfl, _, rfl, RgOk.of_le (by omega) (by omega) (by omega) (by omega), fun q1 hq1 => ?_⟩
    have s1 := same_new (o := .lst (rgV 0 (b1.length : Int))) hq1
    refine ⟨_, rfl, l, Cl, dxl, _, rfl, s1 _ _ pl, hCl, rfl, l, [c], b2, t2, rfl, hl1.mono s1, fun q2 hq2 => ?_⟩
    have s2 := same_upd s1 (o := .lst (IL t2)) (s1.free hq2)
    refine ⟨q2, rfl, ⟨_, SqL.of upd_same⟩, fun D hD => lcV (walk_list (xs := IL t2)) (by simp; omega) hD (fun i => nV (b1.length + t2.getD i 0)) (fun H' s' => SqL.of (s' _ _ upd_same)) ?_ ?_⟩
    · rintro i y H1 H2 Q' hi s ⟨rfl, hy⟩ k'
      obtain ⟨hb, rfl⟩ := IL_at hy
      exact ⟨rfl, _, rfl, _, rfl, _, _, rfl, rfl, k' _ (Same.refl _)⟩
    · intro H3 s3 hD3
      have s4 := s2.trans s3
      have n12 : q1 ≠ q2 := ne_of_none upd_same hq2
      have hq13 : H3 q1 = some (.lst (rgV 0 (b1.length : Int))) := s3 _ _ ((upd_ne n12).trans upd_same)
      refine ⟨q1, D, _, _, rfl, rfl, hq13, hD3, big _ (by rw [rgV_length]; simp; omega), fun f hf => ?_⟩
      rw [shift_eq]
      have s5 := same_upd s4 (o := .lst (IL (List.range b1.length ++ t2.map fun x => b1.length + x))) (s4.free hf)
      refine ⟨_, rfl, u, Cu, dxu, _, rfl, s5 _ _ pu, hCu, rfl, u, [c], b1, t1, rfl, hu1.mono s5, fun r1 hr1 => ?_⟩
      have s6 := same_upd s5 (o := .lst (IL t1)) (s5.free hr1)
      refine ⟨_, rfl, u, Cu, dxu, _, rfl, s6 _ _ pu, hCu, rfl, u, [c], b1, t1, rfl, hu1.mono s6, fun r2 hr2 => ?_⟩
      have s7 := same_upd s6 (o := .lst (IL t1)) (s6.free hr2)
      have m1 : f ≠ r1 := ne_of_none upd_same hr1
      have m2 : f ≠ r2 := ne_of_none ((upd_ne m1).trans upd_same) hr2
      have m3 : r1 ≠ r2 := ne_of_none upd_same hr2
      have hf7 := (upd_ne m2 (o := .lst (IL t1))).trans ((upd_ne m1 (o := .lst (IL t1))).trans (upd_same (H := H3) (o := .lst (IL (List.range b1.length ++ t2.map fun x => b1.length + x)))))
      obtain ⟨F, hF⟩ : ∃ F, F = List.range b1.length ++ t2.map (fun x => b1.length + x) := ⟨_, rfl⟩
      rw [← hF] at s5 s6 s7 hf7 hr1 hr2 ⊢
      have lF : F.length = t1.length + b2.length := by rw [hF]; simp; omega
      refine ⟨r2, _, rfl, .inl (SqL.of upd_same), _, rfl, f, _, rfl, .inl (SqL.of hf7), _, _, rfl, rfl, RgOk.of_le (by omega) (by simp; omega) (by simp; omega) (by omega), fun r3 hr3 => ?_⟩
      have eR : rgV ((IL t1).length : Int) ((IL F).length : Int) = IL (PtM.from_ t1.length b2.length) := by
        have e1 : (IL t1).length = t1.length := by simp
        have e2 : (IL F).length = t1.length + b2.length := by simp [lF]
        rw [e1, e2, rg_from]
      rw [eR]
      have s8 := same_upd s7 (o := .lst (IL (PtM.from_ t1.length b2.length))) (s7.free hr3)
      have hr18 := (upd_ne (ne_of_none ((upd_ne m3).trans upd_same) hr3) (o := .lst (IL (PtM.from_ t1.length b2.length)))).trans ((upd_ne m3 (o := .lst (IL t1))).trans (upd_same (H := upd H3 f (.lst (IL F))) (o := .lst (IL t1))))
      refine ⟨r1, r3, _, _, rfl, rfl, hr18, upd_same, big _ (by simp [PtM.from_len]; omega), fun g hg => ?_⟩
      rw [IL_app]
      obtain ⟨S, hS⟩ : ∃ S, S = t1 ++ PtM.from_ t1.length b2.length := ⟨_, rfl⟩
      rw [← hS]
      have lS : S.length = t1.length + b2.length := by rw [hS]; simp [PtM.from_len]
      have s9 := same_upd s8 (o := .lst (IL S)) (s8.free hg)
      have hf8 := (upd_ne (ne_of_none hf7 hr3) (o := .lst (IL (PtM.from_ t1.length b2.length)))).trans hf7
      have hf9 := (upd_ne (ne_of_none hf8 hg) (o := .lst (IL S))).trans hf8
      -- Piece.__init__
      refine ⟨_, rfl, _, rfl, u, Cu, dxu, _, rfl, s9 _ _ pu, hCu, rfl, u, [c], b1, t1, rfl, hu1.mono s9, _, rfl, (by show 2 ≤ sizeLine; decide), fun p hp => ?_⟩
      have s10 := same_upd s9 (o := .tup [.str (sOf [c]), .str (sOf (b1 ++ b2))]) (s9.free hp)
      have hf10 := (upd_ne (ne_of_none hf9 hp) (o := .tup [.str (sOf [c]), .str (sOf (b1 ++ b2))])).trans hf9
      refine ⟨_, rfl, _, rfl, g, f, S, F, rfl, (same_new hp) _ _ upd_same, hf10, by rw [hS]; exact PtM.turn_app oku.turn rfl, by rw [hF]; exact PtM.turn_pre okl.turn, by omega, by omega, ?_⟩
      rintro v11 H11 s11 ⟨r, st, rfl, hr, hrL, hst⟩
      have s12 := s10.trans s11
      refine ⟨_, rfl, _, rfl, (by show 2 ≤ sizeLine; decide), fun m hm => ?_⟩
      have s13 := same_upd s12 (o := .lst (RL [u, l])) (s12.free hm)
      have hx13 := s13 _ _ hx
      have hp11 := s11 _ _ (upd_same (a := p) (o := .tup [.str (sOf [c]), .str (sOf (b1 ++ b2))]))
      have ok := PtM.pc_beside oku okl (hF ▸ hst)
      rw [← hS] at ok
      refine ⟨x, p, r, m, _, dx, [c], b1 ++ b2, _, [u, l], rfl, .inr (.inr (.inr rfl)), hx13, hide_ne hx13 ((upd_ne (ne_of_none hp11 hm)).trans hp11) (fun z => by cases z), hide_ne hx13 ((upd_ne (ne_of_none hrL hm)).trans hrL) (fun z => by cases z), hide_ne hx13 upd_same (fun z => by cases z), ?_, ok, ra, rb, fun H' s' hP => ?_⟩
      · intro i hi
        have : i = 0 ∨ i = 1 := by simp at hi; omega
        rcases this with rfl | rfl
        · exact ⟨_, _, _, hu.mono (hide_same s13)⟩
        · exact ⟨_, _, _, hl.mono (hide_same s13)⟩
      · exact k _ ((hide_same s13).trans s') ⟨_, hP⟩
theorem new_Beside {P : Program} {w : World} {K : PySem.W.Frag} {mg : Str → Option Value} {base : Heap} (T : Tx K mg) : Nw P w K mg base "Beside" (He.ga K "Beside") ["self", "left", "right"] (8) (sp_Beside_init K) := by
  obtain ⟨fd, F⟩ := T.D_Beside_init
  obtain ⟨b, G⟩ := fn_Beside_init (P := P) (w := w) (base := base) T F
  exact ⟨_, fd, T.g_Beside, T.mk_Beside, b, G⟩
end Pt
end
section
set_option maxRecDepth 100000
set_option maxHeartbeats 4000000
namespace Pt
open PySem PySem.Spec PyProof.Rows L2
theorem Row.sub {a b : List Nat} (h : Row b) (s : a.Sublist b) : Row a := ⟨Nat.le_trans s.length_le h.1, fun c hc => h.2 c (s.subset hc)⟩
theorem cutS_to {l : List Nat} {k : Nat} (h : k ≤ l.length) : cutS (sOf l) none (some (k : Int)) = sOf (l.take k) := by
  unfold cutS
  rw [HT.sIx_nat, HT.sIx_none, sOf_len, Nat.min_eq_left h, sOf_cps]
  simp [sOf]
theorem cutS_from {l : List Nat} {k : Nat} (h : k ≤ l.length) : cutS (sOf l) (some (k : Int)) none = sOf (l.drop k) := by
  unfold cutS
  rw [HT.sIx_nat, HT.sIx_none, sOf_len, Nat.min_eq_left h, sOf_cps]
  rw [List.take_of_length_le (by simp)]
  rfl
def sp_half_made (K : PySem.W.Frag) (n : Nat) : Sp := fun vs H Q _ => ∃ (c : Nat) (b : List Nat), vs = [.str (sOf [c]), .str (sOf b)] ∧ (isLet c ∨ c = 46) ∧ Row b ∧ b.length < n ∧ Ret (fun v H' => ∃ p t, v = .ref p ∧ PieceAt K H' p [c] b t) H Q
theorem no_half_made {K : PySem.W.Frag} (vs H Q E) : ¬ sp_half_made K 0 vs H Q E := fun ⟨_, _, _, _, _, h, _⟩ => absurd h (Nat.not_lt_zero _)
abbrev sc_half_made_N : List Str := ["side", "top", "half"]
theorem sc_half_made : FnScope sc_half_made_N ["side", "top"] (defScope s_half_made) := ⟨rfl, rfl, rfl, by decide +kernel, rfl, by decide +kernel, by decide +kernel⟩
theorem z_half_made {P : Program} {w : World} {K : PySem.W.Frag} {mg : Str → Option Value} {base : Heap} (T : Tx K mg) : Fn P w K mg base "half_made" ["side", "top"] ((9+0)) (sp_half_made K 0) := by
  obtain ⟨fd, F⟩ := T.D_half_made
  exact ⟨_, fd, T.g_half_made, F.kp, F.bindsN (fun _ _ _ _ _ _ us hl => match us, hl with | [_, _], _ => rfl), F.ok sc_half_made (fun vs H Q E h => absurd h (no_half_made _ _ _ _)) (fun cdv A outer s H vs Q E hr h => absurd h (no_half_made _ _ _ _))⟩
theorem st_half_made {P : Program} {w : World} {K : PySem.W.Frag} {mg : Str → Option Value} {base : Heap} {n : Nat} (ih : Fn P w K mg base "half_made" ["side", "top"] (9+n) (sp_half_made K n)) (T : Tx K mg) : Fn P w K mg base "half_made" ["side", "top"] ((9+n+1)) (sp_half_made K (n+1)) := by
  obtain ⟨fd, F⟩ := T.D_half_made
  refine ⟨_, fd, T.g_half_made, F.kp, F.bindsN (fun _ _ _ _ _ _ us hl => match us, hl with | [_, _], _ => rfl), F.ok sc_half_made (fun vs H Q E h => ?_) (fun cdv A outer s H vs Q E hr h => ?_)⟩
  · (obtain ⟨c, b, rfl, hc, rb, hn, k⟩ := h)
    rfl
  · (obtain ⟨c, b, rfl, hc, rb, hn, k⟩ := h)
    refine ⟨_, PSs.nox (pss_cons (ps_if (PW.pt (pw_or (pt_cmpR op_eq (pv 0) pe_str (nomark _)) (pw_or1 (pt_cmpR op_eq (pv 1) pe_str (nomark _))))) (pss_one (ps_ret (pe_nw (new_Blank T) (hr.mono (by omega)) (pa_cons (pv 0) (pa_cons (pv 1) pa_nil))))) pss_nil)
      (pss_cons (ps_set (i := 2) sc_half_made.nd rfl (Or.inl rfl) (pe_op op_fdivNat (pe_callB call_len_str (by rfl) T.z_len (by decide +kernel) (pa_cons (pv 0) pa_nil)) pe_int))
      (pss_cons (ps_if (pt_cmpR op_gt (pv 2) pe_int (nomark _)) (pss_one (ps_ret (pe_nw (new_Over T) (hr.mono (by omega)) (pa_cons (pe_fn ih (hr.mono (by omega)) (pa_cons (pe_slice sl_str (pv 0) po_none (po_some (pv 2))) (pa_cons (pv 1) pa_nil))) (pa_cons (pe_fn ih (hr.mono (by omega)) (pa_cons (pe_slice sl_str (pv 0) (po_some (pv 2)) po_none) (pa_cons (pv 1) pa_nil))) pa_nil))))) pss_nil)
      (pss_cons (ps_set (i := 2) sc_half_made.nd rfl (Or.inl rfl) (pe_op op_fdivNat (pe_callB call_len_str (by rfl) T.z_len (by decide +kernel) (pa_cons (pv 1) pa_nil)) pe_int))
      (pss_cons (ps_if (pt_cmpR op_gt (pv 2) pe_int (nomark _)) (pss_one (ps_ret (pe_nw (new_Beside T) (hr.mono (by omega)) (pa_cons (pe_fn ih (hr.mono (by omega)) (pa_cons (pv 0) (pa_cons (pe_slice sl_str (pv 1) po_none (po_some (pv 2))) pa_nil))) (pa_cons (pe_fn ih (hr.mono (by omega)) (pa_cons (pv 0) (pa_cons (pe_slice sl_str (pv 1) (po_some (pv 2)) po_none) pa_nil))) pa_nil))))) pss_nil)
      (pss_one (ps_ret (pe_nw (new_One T) (hr.mono (by omega)) (pa_cons (pv 0) (pa_cons (pv 1) pa_nil)))))))))), ?_⟩
    have rc := one_row hc
    have lc : (sOf [c]).length = 1 := rfl
    have zb := rb.1
    have ec : ¬ (V.str (sOf [c]) = V.str "") := fun z => by have := emp_eq.mp z; simp at this
    refine ⟨_, rfl, rfl, _, rfl, iteDF ec ⟨_, rfl, rfl, _, rfl, ?_⟩⟩
    by_cases e : b = []
    · subst e
      refine iteDT (emp_eq.mpr rfl) ?_
      refine ⟨_, rfl, _, rfl, fun x dx hx hdx hne => ?_⟩
      have sm := same_make hx hdx (o1 := .own x) (o2 := .ins (He.ga K "Blank") dx [])
      refine ⟨x, dx, [c], [], rfl, upd_same, rc, rb, .inr rfl, fun H' s' ⟨t, hP⟩ => ⟨rfl, k _ _ (sm.trans s') ⟨x, t, rfl, hP⟩⟩⟩
    · refine iteDF (fun z => e (emp_eq.mp z)) ?_
      have h1 : (sOf [c]).length / 2 = 0 := by rw [lc]
      refine ⟨_, rfl, _, rfl, zlen rc, (sOf [c]).length, 2, rfl, rfl, ⟨by decide, by decide⟩, ?_⟩
      refine ⟨_, rfl, _, _, rfl, rfl, _, rfl, iteDF (by rw [h1]; decide) ?_⟩
      refine ⟨_, rfl, _, rfl, zlen rb, (sOf b).length, 2, rfl, rfl, ⟨by decide, by decide⟩, ?_⟩
      rw [sOf_len b]
      refine ⟨_, rfl, _, _, rfl, rfl, _, rfl, ?_⟩
      have hb : 0 < b.length := by cases b with
        | nil => exact absurd rfl e
        | cons _ _ => simp
      by_cases h2 : 0 < b.length / 2
      · refine iteDT (by omega) ?_
        have r1 : Row (b.take (b.length / 2)) := rb.sub (List.take_sublist _ _)
        have r2 : Row (b.drop (b.length / 2)) := rb.sub (List.drop_sublist _ _)
        refine ⟨_, rfl, _, rfl, _, rfl, _, rfl, _, rfl, zlen rb, ?_⟩
        rw [cutS_to (by omega)]
        refine ⟨c, _, rfl, hc, r1, by rw [List.length_take]; omega, ?_⟩
        rintro v1 H1 s1 ⟨p1, t1, rfl, hP1⟩
        refine ⟨_, rfl, _, rfl, _, rfl, _, rfl, _, rfl, zlen rb, ?_⟩
        rw [cutS_from (by omega)]
        refine ⟨c, _, rfl, hc, r2, by rw [List.length_drop]; omega, ?_⟩
        rintro v2 H2 s2 ⟨p2, t2, rfl, hP2⟩
        refine fun x dx hx hdx hne => ?_
        have sm := same_make hx hdx (o1 := .own x) (o2 := .ins (He.ga K "Beside") dx [])
        refine ⟨x, dx, p1, p2, c, _, _, t1, t2, rfl, upd_same, (hP1.mono s2).mono sm, hP2.mono sm, by rw [List.length_take, List.length_drop]; omega, fun H' s' ⟨t, hP⟩ => ⟨rfl, k _ _ ((s1.trans s2).trans (sm.trans s')) ⟨x, t, rfl, ?_⟩⟩⟩
        rw [List.take_append_drop] at hP
        exact hP
      · refine iteDF (by omega) ?_
        obtain ⟨y, rfl⟩ : ∃ y, b = [y] := by
          match b, hb, h2 with
          | [y], _, _ => exact ⟨y, rfl⟩
          | y :: z :: r, _, h => exact absurd (show 0 < (r.length + 1 + 1) / 2 by omega) (by simpa using h)
        refine ⟨_, rfl, _, rfl, fun x dx hx hdx hne => ?_⟩
        have sm := same_make hx hdx (o1 := .own x) (o2 := .ins (He.ga K "One") dx [])
        exact ⟨x, dx, c, y, rfl, upd_same, hc, rb.2 y (by simp), fun H' s' ⟨t, hP⟩ => ⟨rfl, k _ _ (sm.trans s') ⟨x, t, rfl, hP⟩⟩⟩
theorem rec_half_made {P : Program} {w : World} {K : PySem.W.Frag} {mg : Str → Option Value} {base : Heap} (T : Tx K mg) : ∀ n, Fn P w K mg base "half_made" ["side", "top"] (9 + n) (sp_half_made K n)
  | 0 => z_half_made T
  | n + 1 => st_half_made (rec_half_made T n) T
theorem ok_half_made {P : Program} {w : World} {K : PySem.W.Frag} {mg : Str → Option Value} {base : Heap} (T : Tx K mg) : Fn P w K mg base "half_made" ["side", "top"] 58 (sp_half_made K 49) := rec_half_made T 49
def sp_balanced (K : PySem.W.Frag) : Sp := fun vs H Q _ => ∃ (c : Nat) (b : List Nat), vs = [.str (sOf [c]), .str (sOf b)] ∧ (isLet c ∨ c = 46) ∧ Row b ∧ Ret (fun v H' => ∃ p t, v = .ref p ∧ PieceAt K H' p [c] b t) H Q
abbrev sc_balanced_N : List Str := ["side", "top"]
theorem sc_balanced : FnScope sc_balanced_N ["side", "top"] (defScope s_balanced) := ⟨rfl, rfl, rfl, by decide +kernel, rfl, by decide +kernel, by decide +kernel⟩
theorem ok_balanced {P : Program} {w : World} {K : PySem.W.Frag} {mg : Str → Option Value} {base : Heap} (T : Tx K mg) : Fn P w K mg base "balanced" ["side", "top"] (59) (sp_balanced K) := by
  obtain ⟨fd, F⟩ := T.D_balanced
  refine ⟨_, fd, T.g_balanced, F.kp, F.bindsN (fun _ _ _ _ _ _ us hl => match us, hl with | [_, _], _ => rfl), F.ok sc_balanced (fun vs H Q E h => ?_) (fun cdv A outer s H vs Q E hr h => ?_)⟩
  · (obtain ⟨c, b, rfl, hc, rb, k⟩ := h)
    rfl
  · (obtain ⟨c, b, rfl, hc, rb, k⟩ := h)
    refine ⟨_, PSs.nox (pss_cons (ps_expr (pe_fn (ok_need_rows T) (hr.mono (by decide)) (pa_cons (pv 0) (pa_cons (pv 1) pa_nil))))
      (pss_one (ps_ret (pe_fn (ok_half_made T) (hr.mono (by decide)) (pa_cons (pv 0) (pa_cons (pv 1) pa_nil)))))), ?_⟩
    refine ⟨_, rfl, _, rfl, _, _, rfl, one_row hc, rb, fun v H1 s1 e => ?_⟩
    refine ⟨_, rfl, _, rfl, c, b, rfl, hc, rb, by have := rb.1; omega, ?_⟩
    rintro v2 H2 s2 ⟨p, t, rfl, hP⟩
    exact k _ _ (s1.trans s2) ⟨p, t, rfl, hP⟩
abbrev lFs (n : Int) (p : Addr) (u l : V) (many tall : Nat) : List (Str × V) := [("number", .int n), ("piece", .ref p), ("upper", u), ("lower", l), ("many", nV many), ("tall", nV tall)]
inductive LimbAt (K : PySem.W.Frag) (H : Hp) (top : List Nat) : Addr → List Nat → Nat → Prop
  | leaf {a dx p : Addr} {n : Int} {c : Nat} {t : List Nat} (h : H a = some (.ins (He.ga K "Limb") dx (lFs n p .non .non 1 0))) (hp : PieceAt K H p [c] top t) : LimbAt K H top a [c] 0
  | knot {a dx p u l : Addr} {n : Int} {s1 s2 : List Nat} {h1 h2 : Nat} {t : List Nat} (h : H a = some (.ins (He.ga K "Limb") dx (lFs n p (.ref u) (.ref l) (s1 ++ s2).length (1 + max h1 h2)))) (hp : PieceAt K H p (s1 ++ s2) top t)
      (hu : LimbAt K H top u s1 h1) (hl : LimbAt K H top l s2 h2) : LimbAt K H top a (s1 ++ s2) (1 + max h1 h2)
section
variable {K : PySem.W.Frag} {H H' : Hp} {top s : List Nat} {a : Addr} {h : Nat}
theorem LimbAt.mono (m : Same H H') (q : LimbAt K H top a s h) : LimbAt K H' top a s h := by
  induction q with
  | leaf h hp => exact .leaf (m _ _ h) (hp.mono m)
  | knot h hp _ _ i1 i2 => exact .knot (m _ _ h) (hp.mono m) i1 i2
theorem LimbAt.pos (q : LimbAt K H top a s h) : 0 < s.length := by
  induction q with
  | leaf h hp => simp
  | knot h hp _ _ i1 i2 => simp; omega
theorem LimbAt.piece (q : LimbAt K H top a s h) : ∃ dx p n u l t, H a = some (.ins (He.ga K "Limb") dx (lFs n p u l s.length h)) ∧ PieceAt K H p s top t := by
  cases q with
  | leaf h hp => exact ⟨_, _, _, _, _, _, h, hp⟩
  | knot h hp _ _ => exact ⟨_, _, _, _, _, _, h, hp⟩
theorem LimbAt.row (q : LimbAt K H top a s h) : Row s ∧ Row top := by
  obtain ⟨_, _, _, _, _, _, _, C, dx, l, m, i, h1, h2, h3, h4, h5⟩ := q.piece
  exact h5
end
def LimbR (K : PySem.W.Frag) (H : Hp) (top : List Nat) (p : Addr) (uv lv : V) (s : List Nat) (h : Nat) : Prop :=
  (∃ c t, uv = .non ∧ lv = .non ∧ s = [c] ∧ h = 0 ∧ PieceAt K H p s top t) ∨ (∃ u l s1 s2 h1 h2 t, uv = .ref u ∧ lv = .ref l ∧ s = s1 ++ s2 ∧ h = 1 + max h1 h2 ∧ LimbAt K H top u s1 h1 ∧ LimbAt K H top l s2 h2 ∧ PieceAt K H p s top t)
def sp_Limb_init (K : PySem.W.Frag) : Sp := fun vs H Q _ => ∃ (x dx p : Addr) (n : Int) (uv lv : V) (top s : List Nat) (h : Nat), vs = [.ref x, .int n, .ref p, uv, lv] ∧ H x = some (.ins (He.ga K "Limb") dx []) ∧ LimbR K (hide x H) top p uv lv s h ∧ ∀ H', Same (hide x H) H' → LimbAt K H' top x s h → Q .non H'
abbrev sc_Limb_init_N : List Str := ["self", "number", "piece", "upper", "lower"]
theorem sc_Limb_init : FnScope sc_Limb_init_N ["self", "number", "piece", "upper", "lower"] (defScope s_Limb_init) := ⟨rfl, rfl, rfl, by decide +kernel, rfl, by decide +kernel, by decide +kernel⟩
theorem fn_Limb_init {P : Program} {w : World} {K : PySem.W.Frag} {mg : Str → Option Value} {base : Heap} (T : Tx K mg) {f : Addr} {fd : FuncData} (F : FunD K "__init__" "Limb.__init__" (defArgs s_Limb_init) (defBody s_Limb_init) (defScope s_Limb_init) [] [] f fd) : Binds K fd ["self", "number", "piece", "upper", "lower"] [] ∧ FnOk P w K mg base CX0 (2) f fd ["self", "number", "piece", "upper", "lower"] (sp_Limb_init K) := by
  refine ⟨F.bindsN (fun _ _ _ _ _ _ us hl => match us, hl with | [_, _, _, _, _], _ => rfl), F.ok sc_Limb_init (fun vs H Q E h => ?_) (fun cdv A outer s H vs Q E hr h => ?_)⟩
  · (obtain ⟨x, dx, p, n, uv, lv, top, s, h, rfl, hx, hR, k⟩ := h)
    rfl
  · (obtain ⟨x, dx, p, n, uv, lv, top, s, h, rfl, hx, hR, k⟩ := h)
    refine ⟨_, PSs.nox (pss_cons (ps_fld (pv 0) (pv 1) rfl)
      (pss_cons (ps_fld (pv 0) (pv 2) rfl)
      (pss_cons (ps_fld (pv 0) (pv 3) rfl)
      (pss_cons (ps_fld (pv 0) (pv 4) rfl)
      (pss_cons (ps_fld (pv 0) (pe_callB call_len_str (by rfl) T.z_len (by decide +kernel) (pa_cons (pe_ms0 (pv 2) (ok_Piece_side T) (hr.mono (by decide))) pa_nil)) rfl)
      (pss_cons (ps_fld (pv 0) pe_int rfl)
      (pss_one (ps_if (pt_cmp (pc_notN (pv 3))) (pss_one (ps_fld (pv 0) (pe_op op_add pe_int (pe_callB (call_max2 rfl) (by rfl) T.z_max (by decide +kernel) (pa_cons (pe_fld (pv 3) rfl) (pa_cons (pe_fld (pv 4) rfl) pa_nil)))) rfl)) pss_nil)))))))), ?_⟩
    have hx0 : hide x H x = none := by unfold hide; rw [if_pos rfl]
    obtain ⟨t, hP⟩ : ∃ t, PieceAt K (hide x H) p s top t := by
      rcases hR with ⟨c, t, _, _, _, _, h⟩ | ⟨_, _, _, _, _, _, t, _, _, _, _, _, _, h⟩ <;> exact ⟨t, h⟩
    refine ⟨_, rfl, _, rfl, x, _, dx, _, rfl, hx, T.cl_Limb, T.na_Limb_number, by simp, ?_⟩
    rw [putF_nil]
    refine ⟨_, rfl, _, rfl, x, _, dx, _, rfl, upd_same, T.cl_Limb, T.na_Limb_piece, by simp, ?_⟩
    rw [putF_ne (by decide), putF_nil]
    refine ⟨_, rfl, _, rfl, x, _, dx, _, rfl, upd_same, T.cl_Limb, T.na_Limb_upper, by simp, ?_⟩
    rw [putF_ne (by decide), putF_ne (by decide), putF_nil]
    refine ⟨_, rfl, _, rfl, x, _, dx, _, rfl, upd_same, T.cl_Limb, T.na_Limb_lower, by simp, ?_⟩
    rw [putF_ne (by decide), putF_ne (by decide), putF_ne (by decide), putF_nil]
    have s1 : Same (hide x H) _ := same_upd (same_upd (same_upd (same_over (x := x) (o := .ins (He.ga K "Limb") dx [("number", .int n)])) hx0 (o := .ins (He.ga K "Limb") dx [("number", .int n), ("piece", .ref p)])) hx0 (o := .ins (He.ga K "Limb") dx [("number", .int n), ("piece", .ref p), ("upper", uv)])) hx0 (o := .ins (He.ga K "Limb") dx [("number", .int n), ("piece", .ref p), ("upper", uv), ("lower", lv)])
    obtain ⟨C, dxp, lp, mp, ip, hC, hp, _⟩ := id hP
    have rs : Row s := by obtain ⟨_, _, _, _, _, _, _, _, _, r, _⟩ := hP; exact r
    refine ⟨_, rfl, p, C, dxp, _, rfl, s1 _ _ hp, hC, rfl, p, s, top, t, rfl, hP.mono s1, _, rfl, zlen rs, ?_⟩
    rw [sOf_len]
    refine ⟨_, rfl, x, _, dx, _, rfl, upd_same, T.cl_Limb, T.na_Limb_many, by simp, ?_⟩
    rw [putF_ne (by decide), putF_ne (by decide), putF_ne (by decide), putF_ne (by decide), putF_nil]
    refine ⟨_, rfl, x, _, dx, _, rfl, upd_same, T.cl_Limb, T.na_Limb_tall, by simp, ?_⟩
    rw [putF_ne (by decide), putF_ne (by decide), putF_ne (by decide), putF_ne (by decide), putF_ne (by decide), putF_nil]
    have s2 := same_upd (same_upd s1 hx0 (o := .ins (He.ga K "Limb") dx [("number", .int n), ("piece", .ref p), ("upper", uv), ("lower", lv), ("many", nV s.length)])) hx0 (o := .ins (He.ga K "Limb") dx (lFs n p uv lv s.length 0))
    rcases hR with ⟨c, t, rfl, rfl, rfl, rfl, _⟩ | ⟨u, l, sa, sb, h1, h2, t2, rfl, rfl, rfl, rfl, hu, hl, _⟩
    · refine ⟨_, rfl, _, rfl, iteNF rfl ?_⟩
      exact k _ s2 (.leaf (p := p) (n := n) (dx := dx) upd_same (hP.mono s2))
    · refine ⟨_, rfl, _, rfl, iteNT (fun z => by cases z) ?_⟩
      have hu2 := hu.mono s2
      have hl2 := hl.mono s2
      obtain ⟨dxu, pu, nu, uu, lu, tu, ou, _⟩ := hu2.piece
      obtain ⟨dxl, pl, nl, ul, ll, tl, ol, _⟩ := hl2.piece
      refine ⟨_, rfl, u, _, dxu, _, _, rfl, ou, T.cl_Limb, T.na_Limb_tall, rfl, _, rfl, l, _, dxl, _, _, rfl, ol, T.cl_Limb, T.na_Limb_tall, rfl, _, _, rfl, _, _, rfl, rfl, ?_⟩
      refine ⟨_, rfl, x, _, dx, _, rfl, upd_same, T.cl_Limb, T.na_Limb_tall, by simp, ?_⟩
      rw [putF_ne (by decide), putF_ne (by decide), putF_ne (by decide), putF_ne (by decide), putF_ne (by decide), putF_eq]
      have em : V.int (1 + (if (h2 : Int) > (h1 : Int) then (h2 : Int) else (h1 : Int))) = nV (1 + max h1 h2) := by
        show V.int _ = V.int _
        congr 1
        split <;> omega
      have em' : (fun i j : Int => V.int (i + j)) 1 (if (h2 : Int) > (h1 : Int) then (h2 : Int) else (h1 : Int)) = nV (1 + max h1 h2) := em
      rw [em']
      have s3 := same_upd s2 hx0 (o := .ins (He.ga K "Limb") dx (lFs n p (.ref u) (.ref l) (sa ++ sb).length (1 + max h1 h2)))
      exact k _ s3 (.knot upd_same (hP.mono s3) (hu.mono s3) (hl.mono s3))
theorem new_Limb {P : Program} {w : World} {K : PySem.W.Frag} {mg : Str → Option Value} {base : Heap} (T : Tx K mg) : Nw P w K mg base "Limb" (He.ga K "Limb") ["self", "number", "piece", "upper", "lower"] (2) (sp_Limb_init K) := by
  obtain ⟨fd, F⟩ := T.D_Limb_init
  obtain ⟨b, G⟩ := fn_Limb_init (P := P) (w := w) (base := base) T F
  exact ⟨_, fd, T.g_Limb, T.mk_Limb, b, G⟩
end Pt
end
section
set_option maxRecDepth 100000
set_option maxHeartbeats 4000000
namespace Pt
open PySem PySem.Spec PyProof.Rows L2
def RowsAt (H : Hp) (rs : List Addr) : Prop := ∀ i, i < rs.length → ∃ z ys, H (rs.getD i 0) = some (.tup (.int z :: ys))
theorem RowsAt.mono {H H' : Hp} {rs : List Addr} (s : Same H H') (h : RowsAt H rs) : RowsAt H' rs := fun i hi => let ⟨z, ys, e⟩ := h i hi; ⟨z, ys, s _ _ e⟩
theorem RowsAt.app {H : Hp} {rs qs : List Addr} (h : RowsAt H rs) (h' : RowsAt H qs) : RowsAt H (rs ++ qs) := fun i hi => by
  simp only [List.getD_eq_getElem?_getD]
  by_cases c : i < rs.length
  · rw [List.getElem?_append_left c]
    exact h i c
  · rw [List.getElem?_append_right (by omega)]
    exact h' _ (by simp at hi; omega)
theorem RowsAt.one {H : Hp} {p : Addr} {z : Int} {ys : List V} (h : H p = some (.tup (.int z :: ys))) : RowsAt H [p] := fun i hi => by
  have : i = 0 := by simp at hi; omega
  subst this
  exact ⟨z, ys, h⟩
theorem RL_app (a b : List Addr) : RL a ++ RL b = RL (a ++ b) := by simp [RL]
def sp_Limb_rows_from (K : PySem.W.Frag) (n : Nat) : Sp := fun vs H Q _ => ∃ (a : Addr) (f : Int) (top s : List Nat) (h : Nat), vs = [.ref a, .int f] ∧ LimbAt K H top a s h ∧ s.length < n ∧ Ret (fun v H' => ∃ r rs, v = .ref r ∧ H' r = some (.lst (RL rs)) ∧ rs.length < 2 * s.length ∧ RowsAt H' rs) H Q
theorem no_Limb_rows_from {K : PySem.W.Frag} (vs H Q E) : ¬ sp_Limb_rows_from K 0 vs H Q E := fun ⟨_, _, _, _, _, _, _, h, _⟩ => absurd h (Nat.not_lt_zero _)
abbrev sc_Limb_rows_from_N : List Str := ["self", "first", "last", "row"]
theorem sc_Limb_rows_from : FnScope sc_Limb_rows_from_N ["self", "first"] (defScope s_Limb_rows_from) := ⟨rfl, rfl, rfl, by decide +kernel, rfl, by decide +kernel, by decide +kernel⟩
theorem z_Limb_rows_from {P : Program} {w : World} {K : PySem.W.Frag} {mg : Str → Option Value} {base : Heap} (T : Tx K mg) : ∀ C, C = He.ga K "Limb" → Mt P w K mg base C "rows_from" ["self", "first"] ((1+0)) (sp_Limb_rows_from K 0) := by
  intro C hC
  subst hC
  obtain ⟨fd, F⟩ := T.D_Limb_rows_from
  exact ⟨_, fd, T.cl_Limb, T.m_Limb_rows_from, F.bindsN (fun _ _ _ _ _ _ us hl => match us, hl with | [_, _], _ => rfl), F.ok sc_Limb_rows_from (fun vs H Q E h => absurd h (no_Limb_rows_from _ _ _ _)) (fun cdv A outer s H vs Q E hr h => absurd h (no_Limb_rows_from _ _ _ _))⟩
theorem fn_Limb_rows_from {P : Program} {w : World} {K : PySem.W.Frag} {mg : Str → Option Value} {base : Heap} {n : Nat} (ih : ∀ C, C = He.ga K "Limb" → Mt P w K mg base C "rows_from" ["self", "first"] (1+n) (sp_Limb_rows_from K n)) (T : Tx K mg) {f : Addr} {fd : FuncData} (F : FunD K "rows_from" "Limb.rows_from" (defArgs s_Limb_rows_from) (defBody s_Limb_rows_from) (defScope s_Limb_rows_from) [] [] f fd) : Binds K fd ["self", "first"] [] ∧ FnOk P w K mg base CX0 ((1+n+1)) f fd ["self", "first"] (sp_Limb_rows_from K (n+1)) := by
  refine ⟨F.bindsN (fun _ _ _ _ _ _ us hl => match us, hl with | [_, _], _ => rfl), F.ok sc_Limb_rows_from (fun vs H Q E h => ?_) (fun cdv A outer s H vs Q E hr h => ?_)⟩
  · (obtain ⟨a, f0, top, s, h, rfl, hL, hn, k⟩ := h)
    rfl
  · (obtain ⟨a, f0, top, s, h, rfl, hL, hn, k⟩ := h)
    refine ⟨_, PSs.nox (pss_cons (ps_set (i := 2) sc_Limb_rows_from.nd rfl (Or.inl rfl) (pe_op op_add (pv 1) (pe_fld (pv 0) rfl)))
      (pss_cons (ps_if (pt_cmp (pc_isN (pe_fld (pv 0) rfl))) (pss_one (ps_ret (pe_lst (pa_cons (pe_tup (pa_cons (pe_fld (pv 0) rfl) (pa_cons (pv 1) (pa_cons (pv 2) (pa_cons pe_non (pa_cons pe_non pa_nil)))))) pa_nil)))) pss_nil)
      (pss_cons (ps_set (i := 3) sc_Limb_rows_from.nd rfl (Or.inl rfl) (pe_tup (pa_cons (pe_fld (pv 0) rfl) (pa_cons (pv 1) (pa_cons (pv 2) (pa_cons (pe_fld (pe_fld (pv 0) rfl) rfl) (pa_cons (pe_fld (pe_fld (pv 0) rfl) rfl) pa_nil)))))))
      (pss_one (ps_ret (pe_op op_cat (pe_op op_cat (pe_lst (pa_cons (pv 3) pa_nil)) (pe_ms (pe_fld (pv 0) rfl) ih (hr.mono (by omega)) (pa_cons (pv 1) pa_nil))) (pe_ms (pe_fld (pv 0) rfl) ih (hr.mono (by omega)) (pa_cons (pe_op op_add (pv 1) (pe_fld (pe_fld (pv 0) rfl) rfl)) pa_nil)))))))), ?_⟩
    have hr48 := hL.row.1.1
    have cl := T.cl_Limb
    cases hL with
    | @leaf _ dx p n c t ho hp =>
      refine ⟨_, rfl, _, rfl, a, _, dx, _, _, rfl, ho, cl, T.na_Limb_many, rfl, _, _, rfl, rfl, ?_⟩
      refine ⟨_, rfl, a, _, dx, _, _, rfl, ho, cl, T.na_Limb_upper, rfl, _, rfl, iteDT rfl ?_⟩
      refine ⟨_, rfl, a, _, dx, _, _, rfl, ho, cl, T.na_Limb_number, rfl, _, rfl, _, rfl, (by show 5 ≤ sizeLine; decide), fun q hq => ?_⟩
      have s1 := same_new (o := .tup [.int n, .int f0, .int (f0 + (1 : Nat)), .non, .non]) hq
      refine ⟨(by show 1 ≤ sizeLine; decide), fun r hr => ?_⟩
      have s2 := same_upd s1 (o := .lst (RL [q])) (s1.free hr)
      exact k _ _ s2 ⟨r, [q], rfl, upd_same, by simp, .one (((upd_ne (ne_of_none upd_same hr)).trans upd_same))⟩
    | @knot _ dx p u l n s1 s2 h1 h2 t ho hp hu hl =>
      have lp1 := hu.pos
      have lp2 := hl.pos
      have ls : (s1 ++ s2).length = s1.length + s2.length := List.length_append
      obtain ⟨dxu, pu, nu, uu, lu, tu, ou, _⟩ := hu.piece
      obtain ⟨dxl, pl, nl, ul, ll, tl, ol, _⟩ := hl.piece
      refine ⟨_, rfl, _, rfl, a, _, dx, _, _, rfl, ho, cl, T.na_Limb_many, rfl, _, _, rfl, rfl, ?_⟩
      refine ⟨_, rfl, a, _, dx, _, _, rfl, ho, cl, T.na_Limb_upper, rfl, _, rfl, iteDF (fun z => by cases z) ?_⟩
      refine ⟨_, rfl, a, _, dx, _, _, rfl, ho, cl, T.na_Limb_number, rfl, _, rfl, _, rfl, _, rfl, a, _, dx, _, _, rfl, ho, cl, T.na_Limb_upper, rfl, u, _, dxu, _, _, rfl, ou, cl, T.na_Limb_number, rfl, _, rfl, a, _, dx, _, _, rfl, ho, cl, T.na_Limb_lower, rfl, l, _, dxl, _, _, rfl, ol, cl, T.na_Limb_number, rfl, (by show 5 ≤ sizeLine; decide), fun q hq => ?_⟩
      have m1 := same_new (o := .tup [.int n, .int f0, .int (f0 + ((s1 ++ s2).length : Nat)), .int nu, .int nl]) hq
      refine ⟨_, rfl, (by show 1 ≤ sizeLine; decide), fun r hr => ?_⟩
      have m2 := same_upd m1 (o := .lst (RL [q])) (m1.free hr)
      have hqr := ((same_new hr (o := .lst (RL [q]))) _ _ (upd_same (a := q) (o := .tup [.int n, .int f0, .int (f0 + ((s1 ++ s2).length : Nat)), .int nu, .int nl])))
      refine ⟨_, rfl, a, _, dx, _, _, rfl, m2 _ _ ho, cl, T.na_Limb_upper, rfl, u, _, dxu, _, rfl, m2 _ _ ou, rfl, rfl, _, rfl, u, f0, top, s1, h1, rfl, hu.mono m2, by omega, ?_⟩
      rintro v1 H1 m3 ⟨r1, rs1, rfl, hr1, hl1, ha1⟩
      have m23 := m2.trans m3
      have hr3 := m3 _ _ (upd_same (a := r) (o := .lst (RL [q])))
      refine ⟨r, r1, _, _, rfl, rfl, hr3, hr1, big _ (by rw [RL_len, RL_len, List.length_singleton]; omega), fun p1 hp1 => ?_⟩
      have m4 := same_upd m23 (o := .lst (RL [q] ++ RL rs1)) (m23.free hp1)
      refine ⟨_, rfl, a, _, dx, _, _, rfl, m4 _ _ ho, cl, T.na_Limb_lower, rfl, l, _, dxl, _, rfl, m4 _ _ ol, rfl, rfl, _, rfl, _, rfl, a, _, dx, _, _, rfl, m4 _ _ ho, cl, T.na_Limb_upper, rfl, u, _, dxu, _, _, rfl, m4 _ _ ou, cl, T.na_Limb_many, rfl, _, _, rfl, rfl, l, _, top, s2, h2, rfl, hl.mono m4, by omega, ?_⟩
      rintro v2 H2 m5 ⟨r2, rs2, rfl, hr2, hl2, ha2⟩
      have m45 := m4.trans m5
      have hp2 := m5 _ _ (upd_same (a := p1) (o := .lst (RL [q] ++ RL rs1)))
      refine ⟨p1, r2, _, _, rfl, rfl, hp2, hr2, big _ (by rw [List.length_append, RL_len, RL_len, RL_len, List.length_singleton]; omega), fun p2 hp2' => ?_⟩
      have m6 := same_upd m45 (o := .lst (RL [q] ++ RL rs1 ++ RL rs2)) (m45.free hp2')
      refine k _ _ m6 ⟨p2, [q] ++ rs1 ++ rs2, rfl, by rw [upd_same, RL_app, RL_app], by simp only [List.length_append, List.length_singleton]; omega, ?_⟩
      have w6 := same_new hp2' (o := .lst (RL [q] ++ RL rs1 ++ RL rs2))
      have w4 := same_new hp1 (o := .lst (RL [q] ++ RL rs1))
      refine RowsAt.app (RowsAt.app (.one (w6 _ _ (m5 _ _ (w4 _ _ (m3 _ _ hqr))))) ?_) (ha2.mono w6)
      exact ((ha1.mono w4).mono m5).mono w6
theorem st_Limb_rows_from {P : Program} {w : World} {K : PySem.W.Frag} {mg : Str → Option Value} {base : Heap} {n : Nat} (ih : ∀ C, C = He.ga K "Limb" → Mt P w K mg base C "rows_from" ["self", "first"] (1+n) (sp_Limb_rows_from K n)) (T : Tx K mg) : ∀ C, C = He.ga K "Limb" → Mt P w K mg base C "rows_from" ["self", "first"] ((1+n+1)) (sp_Limb_rows_from K (n+1)) := by
  intro C hC
  subst hC
  obtain ⟨fd, F⟩ := T.D_Limb_rows_from
  obtain ⟨b, G⟩ := fn_Limb_rows_from (P := P) (w := w) (base := base) ih T F
  exact ⟨_, fd, T.cl_Limb, T.m_Limb_rows_from, b, G⟩
theorem rec_Limb_rows_from {P : Program} {w : World} {K : PySem.W.Frag} {mg : Str → Option Value} {base : Heap} (T : Tx K mg) : ∀ n, ∀ C, C = He.ga K "Limb" → Mt P w K mg base C "rows_from" ["self", "first"] (1 + n) (sp_Limb_rows_from K n)
  | 0 => z_Limb_rows_from T
  | n + 1 => st_Limb_rows_from (rec_Limb_rows_from T n) T
theorem ok_Limb_rows_from {P : Program} {w : World} {K : PySem.W.Frag} {mg : Str → Option Value} {base : Heap} (T : Tx K mg) : ∀ C, C = He.ga K "Limb" → Mt P w K mg base C "rows_from" ["self", "first"] 50 (sp_Limb_rows_from K 49) := rec_Limb_rows_from T 49
end Pt
end
section
set_option maxRecDepth 100000
set_option maxHeartbeats 4000000
namespace Pt
open PySem PySem.Spec PyProof.Rows L2
def FixO : HO → Prop
  | .lst _ => True
  | .tup _ => True
  | .ins _ _ fs => ((fs.lookup ("levels" : Str)).isSome || (fs.lookup ("number" : Str)).isSome) = true
  | _ => False
def SameF (H H' : Hp) : Prop := ∀ x o, H x = some o → FixO o → H' x = some o
theorem same_f {H H' : Hp} (s : Same H H') : SameF H H' := fun x o e _ => s x o e
theorem SameF.trans {H1 H2 H3 : Hp} (a : SameF H1 H2) (b : SameF H2 H3) : SameF H1 H3 := fun x o e f => b x o (a x o e f) f
theorem sameF_hide {H : Hp} {g : Addr} {m : HO} (e : H g = some m) (n : ¬ FixO m) : SameF H (hide g H) := fun x o h f => hide_of h (fun z => by subst z; rw [e] at h; cases h; exact n f)
theorem PieceAt.f {K : PySem.W.Frag} {H H' : Hp} {p : Addr} {a b t : List Nat} (s : SameF H H') (h : PieceAt K H p a b t) : PieceAt K H' p a b t :=
  let ⟨C, dx, l, m, h, h1, h2, h3, h4⟩ := h; ⟨C, dx, l, m, h, h1, s _ _ h2 rfl, s _ _ h3 trivial, h4⟩
theorem LimbAt.f {K : PySem.W.Frag} {H H' : Hp} {top s : List Nat} {a : Addr} {h : Nat} (m : SameF H H') (q : LimbAt K H top a s h) : LimbAt K H' top a s h := by
  induction q with
  | leaf h hp => exact .leaf (m _ _ h rfl) (hp.f m)
  | knot h hp _ _ i1 i2 => exact .knot (m _ _ h rfl) (hp.f m) i1 i2
def enc (e : Nat × Addr) : Key × V := (Sum.inr (sOf [e.1]), V.ref e.2)
abbrev gFs (top : List Nat) (n : Int) (d : Addr) : List (Str × V) := [("against", .str (sOf top)), ("given", .int n), ("strips", .ref d)]
def Sgn (c : Nat) : Prop := isLet c ∨ c = 46
def EsOk (K : PySem.W.Frag) (H : Hp) (top : List Nat) (es : List (Nat × Addr)) : Prop := (es.map (·.1)).Nodup ∧ ∀ e ∈ es, Sgn e.1 ∧ ∃ t, PieceAt K H e.2 [e.1] top t
def GrowerAt (K : PySem.W.Frag) (H : Hp) (g d : Addr) (top : List Nat) : Prop :=
  ∃ (dx : Addr) (n : Int) (es : List (Nat × Addr)), H g = some (.ins (He.ga K "Grower") dx (gFs top n d)) ∧ H d = some (.dK (es.map enc)) ∧ EsOk K H top es ∧ Row top
theorem EsOk.f {K : PySem.W.Frag} {H H' : Hp} {top : List Nat} {es : List (Nat × Addr)} (s : SameF H H') (h : EsOk K H top es) : EsOk K H' top es := ⟨h.1, fun e he => ⟨(h.2 e he).1, let ⟨t, q⟩ := (h.2 e he).2; ⟨t, q.f s⟩⟩⟩
theorem GrowerAt.mono {K : PySem.W.Frag} {H H' : Hp} {g d : Addr} {top : List Nat} (s : Same H H') (h : GrowerAt K H g d top) : GrowerAt K H' g d top :=
  let ⟨dx, n, es, h1, h2, h3, h4⟩ := h; ⟨dx, n, es, s _ _ h1, s _ _ h2, h3.f (same_f s), h4⟩
abbrev hid (g d : Addr) (H : Hp) : Hp := hide d (hide g H)
theorem GrowerAt.sf {K : PySem.W.Frag} {H : Hp} {g d : Addr} {top : List Nat} (h : GrowerAt K H g d top) : SameF H (hid g d H) := by
  obtain ⟨dx, n, es, h1, h2, h3, h4⟩ := h
  refine SameF.trans (sameF_hide h1 Bool.false_ne_true) (sameF_hide (hide_of h2 (fun z => by subst z; rw [h1] at h2; cases h2)) id)
theorem hid_trans {g d : Addr} {H1 H2 H3 : Hp} (a : Same (hid g d H1) H2) (b : Same (hid g d H2) H3) : Same (hid g d H1) H3 := fun x o e => b x o (hide_of (hide_of (a x o e) (of_hide (of_hide e).1).2) (of_hide e).2)
theorem hid_of {g d : Addr} {H1 H2 : Hp} (a : Same H1 H2) : Same (hid g d H1) H2 := fun x o e => a x o (of_hide (of_hide e).1).1
theorem hid_upd {g d : Addr} {H1 H2 : Hp} {o : HO} (a : Same (hid g d H1) H2) : Same (hid g d H1) (upd H2 g o) := fun x u e => by
  rw [upd_ne (of_hide (of_hide e).1).2]
  exact a x u e
theorem hid_updd {g d : Addr} {H1 H2 : Hp} {o : HO} (a : Same (hid g d H1) H2) : Same (hid g d H1) (upd H2 d o) := fun x u e => by
  rw [upd_ne (of_hide e).2]
  exact a x u e
abbrev RetG (K : PySem.W.Frag) (g d : Addr) (top : List Nat) (P : V → Hp → Prop) (H : Hp) (Q : VK) : Prop := ∀ v H', Same (hid g d H) H' → GrowerAt K H' g d top → P v H' → Q v H'
theorem nodup_le : ∀ (n : Nat) (l : List Nat), l.Nodup → (∀ x ∈ l, x < n) → l.length ≤ n
  | 0, l, _, h => by
    cases l with
    | nil => exact Nat.le_refl _
    | cons x r => exact absurd (h x (by simp)) (Nat.not_lt_zero _)
  | n + 1, l, hn, h => by
    have := nodup_le n (l.erase n) (hn.erase n) fun x hx => by
      have h1 := h x (List.mem_of_mem_erase hx)
      have h2 : x ≠ n := fun z => by subst z; exact (List.Nodup.not_mem_erase hn) hx
      omega
    have h3 := List.length_erase (a := n) (l := l)
    split at h3 <;> omega
theorem EsOk.few {K : PySem.W.Frag} {H : Hp} {top : List Nat} {es : List (Nat × Addr)} (h : EsOk K H top es) : es.length ≤ 123 := by
  have := nodup_le 123 (es.map (·.1)) h.1 fun x hx => by
    obtain ⟨e, he, rfl⟩ := List.mem_map.mp hx
    rcases (h.2 e he).1 with q | q
    · have := q.2; omega
    · omega
  simpa using this
theorem es_some {c : Nat} {v : V} : ∀ {es : List (Nat × Addr)}, valV (es.map enc) (Sum.inr (sOf [c])) = some v → ∃ p, (c, p) ∈ es ∧ v = .ref p
  | [], h => by cases h
  | e :: es, h => by
    by_cases q : e.1 = c
    · rw [List.map_cons, valV_pos (by subst q; rfl)] at h
      exact ⟨e.2, by subst q; simp, (Option.some.inj h).symm⟩
    · rw [List.map_cons, valV_neg (fun z => q (by have := sOf_inj (Sum.inr.inj z); simpa using this))] at h
      obtain ⟨p, hp, e⟩ := es_some h
      exact ⟨p, List.mem_cons_of_mem _ hp, e⟩
theorem es_in {c : Nat} {p : Addr} : ∀ {es : List (Nat × Addr)}, (c, p) ∈ es → ∃ v, valV (es.map enc) (Sum.inr (sOf [c])) = some v
  | [], h => by cases h
  | e :: es, h => by
    by_cases q : e.1 = c
    · exact ⟨_, by rw [List.map_cons, valV_pos (by subst q; rfl)]⟩
    · rw [List.map_cons, valV_neg (fun z => q (by have := sOf_inj (Sum.inr.inj z); simpa using this))]
      exact es_in ((List.mem_cons.mp h).resolve_left (fun z => q (by rw [← z])))
theorem seq_mid {t u : TS} {D : Ends} {σ : L2.St} {H : Hp} (Mid : L2.St → Hp → Prop) (h1 : ∀ N : L2.St → Hp → Prop, (∀ σ' H', Mid σ' H' → N σ' H') → t { D with nx := N } σ H) (h2 : ∀ σ' H', Mid σ' H' → u D σ' H') : tSeq t u D σ H := h1 (u D) h2
def sp_Grower_init (K : PySem.W.Frag) : Sp := fun vs H Q _ => ∃ (x dx : Addr) (top : List Nat) (n : Int), vs = [.ref x, .str (sOf top), .int n] ∧ H x = some (.ins (He.ga K "Grower") dx []) ∧ Row top ∧ ∀ H' d, Same (hide x H) H' → H d = none → GrowerAt K H' x d top → Q .non H'
abbrev sc_Grower_init_N : List Str := ["self", "against", "given"]
theorem sc_Grower_init : FnScope sc_Grower_init_N ["self", "against", "given"] (defScope s_Grower_init) := ⟨rfl, rfl, rfl, by decide +kernel, rfl, by decide +kernel, by decide +kernel⟩
theorem fn_Grower_init {P : Program} {w : World} {K : PySem.W.Frag} {mg : Str → Option Value} {base : Heap} (T : Tx K mg) {f : Addr} {fd : FuncData} (F : FunD K "__init__" "Grower.__init__" (defArgs s_Grower_init) (defBody s_Grower_init) (defScope s_Grower_init) [] [] f fd) : Binds K fd ["self", "against", "given"] [] ∧ FnOk P w K mg base CX0 (1) f fd ["self", "against", "given"] (sp_Grower_init K) := by
  refine ⟨F.bindsN (fun _ _ _ _ _ _ us hl => match us, hl with | [_, _, _], _ => rfl), F.ok sc_Grower_init (fun vs H Q E h => ?_) (fun cdv A outer s H vs Q E hr h => ?_)⟩
  · (obtain ⟨x, dx, top, n, rfl, hx, rt, k⟩ := h)
    rfl
  · (obtain ⟨x, dx, top, n, rfl, hx, rt, k⟩ := h)
    refine ⟨_, PSs.nox (pss_cons (ps_fld (pv 0) (pv 1) rfl)
      (pss_cons (ps_fld (pv 0) (pv 2) rfl)
      (pss_one (ps_fld (pv 0) pe_dnewK rfl)))), ?_⟩
    have hx0 : hide x H x = none := by unfold hide; rw [if_pos rfl]
    refine ⟨_, rfl, _, rfl, x, _, dx, _, rfl, hx, T.cl_Grower, T.na_Grower_against, by simp, ?_⟩
    rw [putF_nil]
    refine ⟨_, rfl, _, rfl, x, _, dx, _, rfl, upd_same, T.cl_Grower, T.na_Grower_given, by simp, ?_⟩
    rw [putF_ne (by decide), putF_nil]
    have s1 : Same (hide x H) _ := same_upd (same_over (x := x) (o := .ins (He.ga K "Grower") dx [("against", .str (sOf top))])) hx0 (o := .ins (He.ga K "Grower") dx [("against", .str (sOf top)), ("given", .int n)])
    refine fun d hd => ?_
    have hxd : x ≠ d := fun z => by subst z; rw [upd_same] at hd; cases hd
    have s2 := same_upd s1 (o := .dK []) (s1.free hd)
    refine ⟨_, rfl, x, _, dx, _, rfl, (upd_ne hxd).trans upd_same, T.cl_Grower, T.na_Grower_strips, by simp, ?_⟩
    rw [putF_ne (by decide), putF_ne (by decide), putF_nil]
    have s3 := same_upd s2 (o := .ins (He.ga K "Grower") dx (gFs top n d)) hx0
    refine k _ d s3 ?_ ⟨dx, n, [], upd_same, (upd_ne hxd.symm).trans upd_same, ⟨List.nodup_nil, fun e he => by cases he⟩, rt⟩
    have := s1.free hd
    unfold hide at this
    rw [if_neg hxd.symm] at this
    exact this
theorem new_Grower {P : Program} {w : World} {K : PySem.W.Frag} {mg : Str → Option Value} {base : Heap} (T : Tx K mg) : Nw P w K mg base "Grower" (He.ga K "Grower") ["self", "against", "given"] (1) (sp_Grower_init K) := by
  obtain ⟨fd, F⟩ := T.D_Grower_init
  obtain ⟨b, G⟩ := fn_Grower_init (P := P) (w := w) (base := base) T F
  exact ⟨_, fd, T.g_Grower, T.mk_Grower, b, G⟩
theorem strip_add {K : PySem.W.Frag} {H : Hp} {top : List Nat} {es : List (Nat × Addr)} {c : Nat} {p : Addr} {t : List Nat} (h : EsOk K H top es) (hv : valV (es.map enc) (Sum.inr (sOf [c])) = none) (hc : Sgn c) (hP : PieceAt K H p [c] top t) : EsOk K H top (es ++ [(c, p)]) := by
  refine ⟨?_, fun e he => ?_⟩
  · rw [List.map_append, List.nodup_append]
    refine ⟨h.1, by simp, fun x hx y hy => ?_⟩
    have : y = c := by simpa using hy
    subst this
    obtain ⟨e, he, rfl⟩ := List.mem_map.mp hx
    rintro rfl
    obtain ⟨v, hv'⟩ := es_in (c := e.1) (p := e.2) he
    rw [hv] at hv'
    cases hv'
  · rcases List.mem_append.mp he with q | q
    · exact h.2 e q
    · have : e = (c, p) := by simpa using q
      subst this
      exact ⟨hc, t, hP⟩
theorem GrowerAt.ne {K : PySem.W.Frag} {H : Hp} {g d : Addr} {top : List Nat} (h : GrowerAt K H g d top) : g ≠ d := by
  obtain ⟨dx, n, es, h1, h2, _⟩ := h
  rintro rfl
  rw [h1] at h2
  cases h2
def sp_Grower_leaf (K : PySem.W.Frag) : Sp := fun vs H Q _ => ∃ (g d : Addr) (top : List Nat) (c : Nat), vs = [.ref g, .str (sOf [c])] ∧ GrowerAt K H g d top ∧ Sgn c ∧ RetG K g d top (fun v H' => ∃ r, v = .ref r ∧ LimbAt K H' top r [c] 0) H Q
abbrev sc_Grower_leaf_N : List Str := ["self", "sign"]
theorem sc_Grower_leaf : FnScope sc_Grower_leaf_N ["self", "sign"] (defScope s_Grower_leaf) := ⟨rfl, rfl, rfl, by decide +kernel, rfl, by decide +kernel, by decide +kernel⟩
theorem fn_Grower_leaf {P : Program} {w : World} {K : PySem.W.Frag} {mg : Str → Option Value} {base : Heap} (T : Tx K mg) {f : Addr} {fd : FuncData} (F : FunD K "leaf" "Grower.leaf" (defArgs s_Grower_leaf) (defBody s_Grower_leaf) (defScope s_Grower_leaf) [] [] f fd) : Binds K fd ["self", "sign"] [] ∧ FnOk P w K mg base CX0 (60) f fd ["self", "sign"] (sp_Grower_leaf K) := by
  refine ⟨F.bindsN (fun _ _ _ _ _ _ us hl => match us, hl with | [_, _], _ => rfl), F.ok sc_Grower_leaf (fun vs H Q E h => ?_) (fun cdv A outer s H vs Q E hr h => ?_)⟩
  · (obtain ⟨g, d, top, c, rfl, hG, hc, k⟩ := h)
    rfl
  · (obtain ⟨g, d, top, c, rfl, hG, hc, k⟩ := h)
    refine ⟨_, PSs.nox (pss_cons (ps_if (pt_cmp (pc_dnotin (hu_of hr) (pv 1) (pe_fld (pv 0) rfl))) (pss_one (ps_dput (hu_of hr) (pe_fld (pv 0) rfl) (pv 1) (pe_fn (ok_balanced T) (hr.mono (by decide)) (pa_cons (pv 1) (pa_cons (pe_fld (pv 0) rfl) pa_nil))) rfl)) pss_nil)
      (pss_cons (ps_fldaug (pv 0) pe_int in_add)
      (pss_one (ps_ret (pe_nw (new_Limb T) (hr.mono (by decide)) (pa_cons (pe_fld (pv 0) rfl) (pa_cons (pe_dget (hu_of hr) (pe_fld (pv 0) rfl) (pv 1) (fun _ _ => rfl)) (pa_cons pe_non (pa_cons pe_non pa_nil))))))))), ?_⟩
    have hgd := hG.ne
    obtain ⟨dx, n, es, hg, hd, hE, rt⟩ := id hG
    refine seq_mid (fun σ' H' => ∃ (dx : Addr) (n : Int) (es : List (Nat × Addr)), σ' = [some (.ref g), some (.str (sOf [c]))] ∧ Same (hid g d H) H' ∧ H' g = some (.ins (He.ga K "Grower") dx (gFs top n d)) ∧ H' d = some (.dK (es.map enc)) ∧ EsOk K H' top es ∧ ∃ v, valV (es.map enc) (Sum.inr (sOf [c])) = some v) (fun N hN => ?_) ?_
    · refine ⟨_, rfl, _, rfl, g, _, dx, _, _, rfl, hg, T.cl_Grower, T.na_Grower_strips, rfl, d, _, rfl, DGet.k (k := .inr (sOf [c])) hd, _, rfl, ?_⟩
      cases hv : valV (es.map enc) (Sum.inr (sOf [c])) with
      | some v => exact iteF (hN _ _ ⟨dx, n, es, rfl, hid_of (Same.refl H), hg, hd, hE, v, hv⟩)
      | none =>
        refine iteT ?_
        refine ⟨_, rfl, _, rfl, g, _, dx, _, _, rfl, hg, T.cl_Grower, T.na_Grower_against, rfl, c, top, rfl, hc, rt, ?_⟩
        rintro v H1 s1 ⟨p, t, rfl, hP⟩
        refine ⟨_, rfl, g, _, dx, _, _, rfl, s1 _ _ hg, T.cl_Grower, T.na_Grower_strips, rfl, _, rfl, d, _, rfl, DPut.k (k := .inr (sOf [c])) (s1 _ _ hd) (bigS _ (by have := hE.few; simp; omega)), ?_⟩
        rw [putK_new _ hv]
        have sd : SameF H1 (upd H1 d (.dK (es.map enc ++ [(Sum.inr (sOf [c]), V.ref p)]))) := (sameF_hide (s1 _ _ hd) id).trans (same_f same_over)
        refine hN _ _ ⟨dx, n, es ++ [(c, p)], rfl, hid_updd (hid_of s1), (upd_ne hgd).trans (s1 _ _ hg), by rw [upd_same, List.map_append]; rfl, ?_, ?_⟩
        · exact strip_add (hE.f ((same_f s1).trans sd)) hv hc (hP.f sd)
        · rw [List.map_append]
          exact ⟨.ref p, by rw [show List.map enc [(c, p)] = [((Sum.inr (sOf [c]) : Key), V.ref p)] from rfl, valV_snoc _ _ _ _ hv, if_pos rfl]⟩
    · rintro σ1 H1 ⟨dx, n, es, rfl, s1, hg, hd, hE, v, hv⟩
      obtain ⟨p, hp, rfl⟩ := es_some hv
      obtain ⟨_, t, hP⟩ := hE.2 _ hp
      refine ⟨_, rfl, g, _, dx, _, _, rfl, hg, T.cl_Grower, T.na_Grower_given, rfl, _, _, rfl, rfl, dx, _, hg, by simp, ?_⟩
      rw [putF_ne (by decide), putF_eq]
      have s2 := hid_upd (o := .ins (He.ga K "Grower") dx (gFs top (n + 1) d)) s1
      have sg : SameF H1 (upd H1 g (.ins (He.ga K "Grower") dx (gFs top (n + 1) d))) := (sameF_hide hg Bool.false_ne_true).trans (same_f same_over)
      have hd2 : upd H1 g (.ins (He.ga K "Grower") dx (gFs top (n + 1) d)) d = some (.dK (es.map enc)) := (upd_ne hgd.symm).trans hd
      have hP2 := hP.f sg
      have hE2 := hE.f sg
      refine ⟨_, rfl, g, _, dx, _, _, rfl, upd_same, T.cl_Grower, T.na_Grower_given, rfl, _, rfl, g, _, dx, _, _, rfl, upd_same, T.cl_Grower, T.na_Grower_strips, rfl, _, rfl, d, _, rfl, hv ▸ DGet.k (k := .inr (sOf [c])) hd2, fun x dx2 hx hdx hne => ?_⟩
      have sm := same_make hx hdx (o1 := .own x) (o2 := .ins (He.ga K "Limb") dx2 [])
      refine ⟨x, dx2, p, _, _, _, top, [c], 0, rfl, upd_same, .inl ⟨c, t, rfl, rfl, rfl, rfl, hP2.mono sm⟩, fun H' s' hL => ⟨rfl, ?_⟩⟩
      have sH := sm.trans s'
      exact k _ _ (s2.trans sH) ⟨dx, _, es, sH _ _ upd_same, sH _ _ hd2, hE2.f (same_f sH), rt⟩ ⟨x, rfl, hL⟩
theorem ok_Grower_leaf {P : Program} {w : World} {K : PySem.W.Frag} {mg : Str → Option Value} {base : Heap} (T : Tx K mg) : ∀ C, C = He.ga K "Grower" → Mt P w K mg base C "leaf" ["self", "sign"] (60) (sp_Grower_leaf K) := by
  intro C hC
  subst hC
  obtain ⟨fd, F⟩ := T.D_Grower_leaf
  obtain ⟨b, G⟩ := fn_Grower_leaf (P := P) (w := w) (base := base) T F
  exact ⟨_, fd, T.cl_Grower, T.m_Grower_leaf, b, G⟩
def sp_Grower_knot (K : PySem.W.Frag) : Sp := fun vs H Q _ => ∃ (g d u l : Addr) (top s1 s2 : List Nat) (h1 h2 : Nat), vs = [.ref g, .ref u, .ref l] ∧ GrowerAt K H g d top ∧ LimbAt K H top u s1 h1 ∧ LimbAt K H top l s2 h2 ∧ s1.length + s2.length ≤ 48 ∧ RetG K g d top (fun v H' => ∃ r, v = .ref r ∧ LimbAt K H' top r (s1 ++ s2) (1 + max h1 h2)) H Q
abbrev sc_Grower_knot_N : List Str := ["self", "upper", "lower"]
theorem sc_Grower_knot : FnScope sc_Grower_knot_N ["self", "upper", "lower"] (defScope s_Grower_knot) := ⟨rfl, rfl, rfl, by decide +kernel, rfl, by decide +kernel, by decide +kernel⟩
theorem fn_Grower_knot {P : Program} {w : World} {K : PySem.W.Frag} {mg : Str → Option Value} {base : Heap} (T : Tx K mg) {f : Addr} {fd : FuncData} (F : FunD K "knot" "Grower.knot" (defArgs s_Grower_knot) (defBody s_Grower_knot) (defScope s_Grower_knot) [] [] f fd) : Binds K fd ["self", "upper", "lower"] [] ∧ FnOk P w K mg base CX0 (10) f fd ["self", "upper", "lower"] (sp_Grower_knot K) := by
  refine ⟨F.bindsN (fun _ _ _ _ _ _ us hl => match us, hl with | [_, _, _], _ => rfl), F.ok sc_Grower_knot (fun vs H Q E h => ?_) (fun cdv A outer s H vs Q E hr h => ?_)⟩
  · (obtain ⟨g, d, u, l, top, sa, sb, h1, h2, rfl, hG, hu, hl, hz, k⟩ := h)
    rfl
  · (obtain ⟨g, d, u, l, top, sa, sb, h1, h2, rfl, hG, hu, hl, hz, k⟩ := h)
    refine ⟨_, PSs.nox (pss_cons (ps_fldaug (pv 0) pe_int in_add)
      (pss_one (ps_ret (pe_nw (new_Limb T) (hr.mono (by decide)) (pa_cons (pe_fld (pv 0) rfl) (pa_cons (pe_nw (new_Over T) (hr.mono (by decide)) (pa_cons (pe_fld (pv 1) rfl) (pa_cons (pe_fld (pv 2) rfl) pa_nil))) (pa_cons (pv 1) (pa_cons (pv 2) pa_nil)))))))), ?_⟩
    have hgd := hG.ne
    obtain ⟨dx, n, es, hg, hd, hE, rt⟩ := id hG
    refine ⟨_, rfl, g, _, dx, _, _, rfl, hg, T.cl_Grower, T.na_Grower_given, rfl, _, _, rfl, rfl, dx, _, hg, by simp, ?_⟩
    rw [putF_ne (by decide), putF_eq]
    have s2 := hid_upd (o := .ins (He.ga K "Grower") dx (gFs top (n + 1) d)) (hid_of (g := g) (d := d) (Same.refl H))
    have sg : SameF H (upd H g (.ins (He.ga K "Grower") dx (gFs top (n + 1) d))) := (sameF_hide hg Bool.false_ne_true).trans (same_f same_over)
    have hd2 : upd H g (.ins (He.ga K "Grower") dx (gFs top (n + 1) d)) d = some (.dK (es.map enc)) := (upd_ne hgd.symm).trans hd
    have hu2 := hu.f sg
    have hl2 := hl.f sg
    have hE2 := hE.f sg
    obtain ⟨dxu, pu, nu, uu, lu, tu, ou, hPu⟩ := hu2.piece
    obtain ⟨dxl, pl, nl, ul, ll, tl, ol, hPl⟩ := hl2.piece
    refine ⟨_, rfl, g, _, dx, _, _, rfl, upd_same, T.cl_Grower, T.na_Grower_given, rfl, _, rfl, u, _, dxu, _, _, rfl, ou, T.cl_Limb, T.na_Limb_piece, rfl, _, rfl, l, _, dxl, _, _, rfl, ol, T.cl_Limb, T.na_Limb_piece, rfl, fun x dx2 hx hdx hne => ?_⟩
    have sm := same_make hx hdx (o1 := .own x) (o2 := .ins (He.ga K "Over") dx2 [])
    refine ⟨x, dx2, pu, pl, sa, sb, top, tu, tl, rfl, upd_same, hPu.mono sm, hPl.mono sm, hz, fun H3 s3 ⟨t, hP⟩ => ⟨rfl, ?_⟩⟩
    have sm3 := sm.trans s3
    refine ⟨_, rfl, _, rfl, fun y dy hy hdy hny => ?_⟩
    have sn := same_make hy hdy (o1 := .own y) (o2 := .ins (He.ga K "Limb") dy [])
    refine ⟨y, dy, x, _, _, _, top, sa ++ sb, 1 + max h1 h2, rfl, upd_same, .inr ⟨u, l, sa, sb, h1, h2, t, rfl, rfl, rfl, rfl, (hu2.mono sm3).mono sn, (hl2.mono sm3).mono sn, hP.mono sn⟩, fun H4 s4 hL => ⟨rfl, ?_⟩⟩
    have sH := sm3.trans (sn.trans s4)
    exact k _ _ (s2.trans sH) ⟨dx, _, es, sH _ _ upd_same, sH _ _ hd2, hE2.f (same_f sH), rt⟩ ⟨y, rfl, hL⟩
theorem ok_Grower_knot {P : Program} {w : World} {K : PySem.W.Frag} {mg : Str → Option Value} {base : Heap} (T : Tx K mg) : ∀ C, C = He.ga K "Grower" → Mt P w K mg base C "knot" ["self", "upper", "lower"] (10) (sp_Grower_knot K) := by
  intro C hC
  subst hC
  obtain ⟨fd, F⟩ := T.D_Grower_knot
  obtain ⟨b, G⟩ := fn_Grower_knot (P := P) (w := w) (base := base) T F
  exact ⟨_, fd, T.cl_Grower, T.m_Grower_knot, b, G⟩
end Pt
end
section
set_option maxRecDepth 100000
set_option maxHeartbeats 4000000
namespace Pt
open PySem PySem.Spec PyProof.Rows L2
theorem natSub {a b : Nat} (h : b ≤ a) : V.int ((a : Int) - (b : Int)) = nV (a - b) := by
  have : ((a : Int) - (b : Int)) = ((a - b : Nat) : Int) := by omega
  rw [this]; rfl
theorem LimbAt.cast {K : PySem.W.Frag} {H : Hp} {top s s' : List Nat} {a : Addr} {h : Nat} (q : LimbAt K H top a s h) (e : s = s') : LimbAt K H top a s' h := e ▸ q
def sp_Grower_joined (K : PySem.W.Frag) : Sp := fun vs H Q _ => ∃ (g d u l : Addr) (top s1 s2 : List Nat) (h1 h2 : Nat), vs = [.ref g, .ref u, .ref l] ∧ GrowerAt K H g d top ∧ LimbAt K H top u s1 h1 ∧ LimbAt K H top l s2 h2 ∧ s1.length + s2.length ≤ 48 ∧ RetG K g d top (fun v H' => ∃ r h, v = .ref r ∧ LimbAt K H' top r (s1 ++ s2) h) H Q
abbrev sc_Grower_joined_N : List Str := ["self", "upper", "lower", "amid"]
theorem sc_Grower_joined : FnScope sc_Grower_joined_N ["self", "upper", "lower"] (defScope s_Grower_joined) := ⟨rfl, rfl, rfl, by decide +kernel, rfl, by decide +kernel, by decide +kernel⟩
theorem fn_Grower_joined {P : Program} {w : World} {K : PySem.W.Frag} {mg : Str → Option Value} {base : Heap} (T : Tx K mg) {f : Addr} {fd : FuncData} (F : FunD K "joined" "Grower.joined" (defArgs s_Grower_joined) (defBody s_Grower_joined) (defScope s_Grower_joined) [] [] f fd) : Binds K fd ["self", "upper", "lower"] [] ∧ FnOk P w K mg base CX0 (11) f fd ["self", "upper", "lower"] (sp_Grower_joined K) := by
  refine ⟨F.bindsN (fun _ _ _ _ _ _ us hl => match us, hl with | [_, _, _], _ => rfl), F.ok sc_Grower_joined (fun vs H Q E h => ?_) (fun cdv A outer s H vs Q E hr h => ?_)⟩
  · (obtain ⟨g, d, u, l, top, sa, sb, h1, h2, rfl, hG, hu, hl, hz, k⟩ := h)
    rfl
  · (obtain ⟨g, d, u, l, top, sa, sb, h1, h2, rfl, hG, hu, hl, hz, k⟩ := h)
    refine ⟨_, PSs.nox (pss_cons (ps_if (pt_cmpR op_gt (pe_fld (pv 1) rfl) (pe_op op_add (pe_fld (pv 2) rfl) pe_int) (nomark _)) (pss_cons (ps_set (i := 3) sc_Grower_joined.nd rfl (Or.inl rfl) (pe_fld (pv 1) rfl))
      (pss_cons (ps_if (pt_cmpR op_ge (pe_fld (pe_fld (pv 1) rfl) rfl) (pe_fld (pv 3) rfl) (nomark _)) (pss_one (ps_ret (pe_ms (pv 0) (ok_Grower_knot T) (hr.mono (by decide)) (pa_cons (pe_fld (pv 1) rfl) (pa_cons (pe_ms (pv 0) (ok_Grower_knot T) (hr.mono (by decide)) (pa_cons (pv 3) (pa_cons (pv 2) pa_nil))) pa_nil))))) pss_nil)
      (pss_one (ps_ret (pe_ms (pv 0) (ok_Grower_knot T) (hr.mono (by decide)) (pa_cons (pe_ms (pv 0) (ok_Grower_knot T) (hr.mono (by decide)) (pa_cons (pe_fld (pv 1) rfl) (pa_cons (pe_fld (pv 3) rfl) pa_nil))) (pa_cons (pe_ms (pv 0) (ok_Grower_knot T) (hr.mono (by decide)) (pa_cons (pe_fld (pv 3) rfl) (pa_cons (pv 2) pa_nil))) pa_nil))))))) pss_nil)
      (pss_cons (ps_if (pt_cmpR op_gt (pe_fld (pv 2) rfl) (pe_op op_add (pe_fld (pv 1) rfl) pe_int) (nomark _)) (pss_cons (ps_set (i := 3) sc_Grower_joined.nd rfl (Or.inl rfl) (pe_fld (pv 2) rfl))
      (pss_cons (ps_if (pt_cmpR op_ge (pe_fld (pe_fld (pv 2) rfl) rfl) (pe_fld (pv 3) rfl) (nomark _)) (pss_one (ps_ret (pe_ms (pv 0) (ok_Grower_knot T) (hr.mono (by decide)) (pa_cons (pe_ms (pv 0) (ok_Grower_knot T) (hr.mono (by decide)) (pa_cons (pv 1) (pa_cons (pv 3) pa_nil))) (pa_cons (pe_fld (pv 2) rfl) pa_nil))))) pss_nil)
      (pss_one (ps_ret (pe_ms (pv 0) (ok_Grower_knot T) (hr.mono (by decide)) (pa_cons (pe_ms (pv 0) (ok_Grower_knot T) (hr.mono (by decide)) (pa_cons (pv 1) (pa_cons (pe_fld (pv 3) rfl) pa_nil))) (pa_cons (pe_ms (pv 0) (ok_Grower_knot T) (hr.mono (by decide)) (pa_cons (pe_fld (pv 3) rfl) (pa_cons (pe_fld (pv 2) rfl) pa_nil))) pa_nil))))))) pss_nil)
      (pss_one (ps_ret (pe_ms (pv 0) (ok_Grower_knot T) (hr.mono (by decide)) (pa_cons (pv 1) (pa_cons (pv 2) pa_nil))))))), ?_⟩
    have cl := T.cl_Limb
    have nt := T.na_Limb_tall
    have nu := T.na_Limb_upper
    have nl := T.na_Limb_lower
    obtain ⟨dx, n, es, hg, _⟩ := id hG
    obtain ⟨dxu0, pu0, iu0, uu0, lu0, tu0, ou0, _⟩ := hu.piece
    obtain ⟨dxl0, pl0, il0, ul0, ll0, tl0, ol0, _⟩ := hl.piece
    refine ⟨_, rfl, u, _, dxu0, _, _, rfl, ou0, cl, nt, rfl, _, rfl, l, _, dxl0, _, _, rfl, ol0, cl, nt, rfl, _, _, rfl, rfl, _, _, rfl, rfl, _, rfl, ?_⟩
    by_cases c : h2 + 1 < h1
    · refine iteDT (by omega) ?_
      cases hu with
      | leaf _ _ => omega
      | @knot _ dxu pu a b iu s1 s2 k1 k2 tu ou hpu ha hb =>
        have ls : (s1 ++ s2).length = s1.length + s2.length := List.length_append
        obtain ⟨dxa, pa, ia, ua, la, ta, oa, _⟩ := ha.piece
        obtain ⟨dxb0, pb0, ib0, ub0, lb0, tb0, ob0, _⟩ := hb.piece
        refine ⟨_, rfl, u, _, dxu, _, _, rfl, ou, cl, nl, rfl, ?_⟩
        refine ⟨_, rfl, u, _, dxu, _, _, rfl, ou, cl, nu, rfl, a, _, dxa, _, _, rfl, oa, cl, nt, rfl, _, rfl, b, _, dxb0, _, _, rfl, ob0, cl, nt, rfl, _, _, rfl, rfl, _, rfl, ?_⟩
        by_cases e : k2 ≤ k1
        · refine iteDT (by omega) ?_
          refine ⟨_, rfl, g, _, dx, _, rfl, hg, rfl, rfl, _, rfl, u, _, dxu, _, _, rfl, ou, cl, nu, rfl, _, rfl, g, _, dx, _, rfl, hg, rfl, rfl, _, rfl, _, rfl, g, d, b, l, top, s2, sb, k2, h2, rfl, hG, hb, hl, by omega, ?_⟩
          rintro v1 H1 m1 G1 ⟨r1, rfl, q1⟩
          have f1 : SameF H H1 := hG.sf.trans (same_f m1)
          refine ⟨g, d, a, r1, top, s1, s2 ++ sb, k1, _, rfl, G1, ha.f f1, q1, by rw [List.length_append]; omega, ?_⟩
          rintro v2 H2 m2 G2 ⟨r2, rfl, q2⟩
          exact k _ _ (hid_trans m1 m2) G2 ⟨r2, _, rfl, q2.cast (by rw [List.append_assoc])⟩
        · refine iteDF (by omega) ?_
          cases hb with
          | leaf _ _ => omega
          | @knot _ dxb pb x y ib t1 t2 j1 j2 tb ob hpb hx hy =>
            have lt : (t1 ++ t2).length = t1.length + t2.length := List.length_append
            refine ⟨_, rfl, g, _, dx, _, rfl, hg, rfl, rfl, _, rfl, g, _, dx, _, rfl, hg, rfl, rfl, _, rfl, u, _, dxu, _, _, rfl, ou, cl, nu, rfl, _, rfl, b, _, dxb, _, _, rfl, ob, cl, nu, rfl, g, d, a, x, top, s1, t1, k1, j1, rfl, hG, ha, hx, by omega, ?_⟩
            rintro v1 H1 m1 G1 ⟨r1, rfl, q1⟩
            have f1 : SameF H H1 := hG.sf.trans (same_f m1)
            obtain ⟨dx1, n1, es1, hg1, _⟩ := id G1
            refine ⟨_, rfl, g, _, dx1, _, rfl, hg1, rfl, rfl, _, rfl, b, _, dxb, _, _, rfl, f1 _ _ ob rfl, cl, nl, rfl, _, rfl, g, d, y, l, top, t2, sb, j2, h2, rfl, G1, hy.f f1, hl.f f1, by omega, ?_⟩
            rintro v2 H2 m2 G2 ⟨r2, rfl, q2⟩
            have f2 : SameF H1 H2 := G1.sf.trans (same_f m2)
            refine ⟨g, d, r1, r2, top, s1 ++ t1, t2 ++ sb, _, _, rfl, G2, q1.f f2, q2, by rw [List.length_append, List.length_append]; omega, ?_⟩
            rintro v3 H3 m3 G3 ⟨r3, rfl, q3⟩
            exact k _ _ (hid_trans (hid_trans m1 m2) m3) G3 ⟨r3, _, rfl, q3.cast (by simp)⟩
    · refine iteDF (by omega) ?_
      refine ⟨_, rfl, l, _, dxl0, _, _, rfl, ol0, cl, nt, rfl, _, rfl, u, _, dxu0, _, _, rfl, ou0, cl, nt, rfl, _, _, rfl, rfl, _, _, rfl, rfl, _, rfl, ?_⟩
      by_cases c2 : h1 + 1 < h2
      · refine iteDT (by omega) ?_
        cases hl with
        | leaf _ _ => omega
        | @knot _ dxl pl a b il s1 s2 k1 k2 tl ol hpl ha hb =>
          have ls : (s1 ++ s2).length = s1.length + s2.length := List.length_append
          obtain ⟨dxa0, pa0, ia0, ua0, la0, ta0, oa0, _⟩ := ha.piece
          obtain ⟨dxb, pb, ib, ub, lb, tb, ob, _⟩ := hb.piece
          refine ⟨_, rfl, l, _, dxl, _, _, rfl, ol, cl, nu, rfl, ?_⟩
          refine ⟨_, rfl, l, _, dxl, _, _, rfl, ol, cl, nl, rfl, b, _, dxb, _, _, rfl, ob, cl, nt, rfl, _, rfl, a, _, dxa0, _, _, rfl, oa0, cl, nt, rfl, _, _, rfl, rfl, _, rfl, ?_⟩
          by_cases e : k1 ≤ k2
          · refine iteDT (by omega) ?_
            refine ⟨_, rfl, g, _, dx, _, rfl, hg, rfl, rfl, _, rfl, g, _, dx, _, rfl, hg, rfl, rfl, _, rfl, _, rfl, g, d, u, a, top, sa, s1, h1, k1, rfl, hG, hu, ha, by omega, ?_⟩
            rintro v1 H1 m1 G1 ⟨r1, rfl, q1⟩
            have f1 : SameF H H1 := hG.sf.trans (same_f m1)
            refine ⟨_, rfl, l, _, dxl, _, _, rfl, f1 _ _ ol rfl, cl, nl, rfl, g, d, r1, b, top, sa ++ s1, s2, _, k2, rfl, G1, q1, hb.f f1, by rw [List.length_append]; omega, ?_⟩
            rintro v2 H2 m2 G2 ⟨r2, rfl, q2⟩
            exact k _ _ (hid_trans m1 m2) G2 ⟨r2, _, rfl, q2.cast (by rw [List.append_assoc])⟩
          · refine iteDF (by omega) ?_
            cases ha with
            | leaf _ _ => omega
            | @knot _ dxa pa x y ia t1 t2 j1 j2 ta oa hpa hx hy =>
              have lt : (t1 ++ t2).length = t1.length + t2.length := List.length_append
              refine ⟨_, rfl, g, _, dx, _, rfl, hg, rfl, rfl, _, rfl, g, _, dx, _, rfl, hg, rfl, rfl, _, rfl, _, rfl, a, _, dxa, _, _, rfl, oa, cl, nu, rfl, g, d, u, x, top, sa, t1, h1, j1, rfl, hG, hu, hx, by omega, ?_⟩
              rintro v1 H1 m1 G1 ⟨r1, rfl, q1⟩
              have f1 : SameF H H1 := hG.sf.trans (same_f m1)
              obtain ⟨dx1, n1, es1, hg1, _⟩ := id G1
              refine ⟨_, rfl, g, _, dx1, _, rfl, hg1, rfl, rfl, _, rfl, a, _, dxa, _, _, rfl, f1 _ _ oa rfl, cl, nl, rfl, _, rfl, l, _, dxl, _, _, rfl, f1 _ _ ol rfl, cl, nl, rfl, g, d, y, b, top, t2, s2, j2, k2, rfl, G1, hy.f f1, hb.f f1, by omega, ?_⟩
              rintro v2 H2 m2 G2 ⟨r2, rfl, q2⟩
              have f2 : SameF H1 H2 := G1.sf.trans (same_f m2)
              refine ⟨g, d, r1, r2, top, sa ++ t1, t2 ++ s2, _, _, rfl, G2, q1.f f2, q2, by rw [List.length_append, List.length_append]; omega, ?_⟩
              rintro v3 H3 m3 G3 ⟨r3, rfl, q3⟩
              exact k _ _ (hid_trans (hid_trans m1 m2) m3) G3 ⟨r3, _, rfl, q3.cast (by simp)⟩
      · refine iteDF (by omega) ?_
        refine ⟨_, rfl, g, _, dx, _, rfl, hg, rfl, rfl, _, rfl, _, rfl, g, d, u, l, top, sa, sb, h1, h2, rfl, hG, hu, hl, hz, ?_⟩
        rintro v1 H1 m1 G1 ⟨r1, rfl, q1⟩
        exact k _ _ m1 G1 ⟨r1, _, rfl, q1⟩
theorem ok_Grower_joined {P : Program} {w : World} {K : PySem.W.Frag} {mg : Str → Option Value} {base : Heap} (T : Tx K mg) : ∀ C, C = He.ga K "Grower" → Mt P w K mg base C "joined" ["self", "upper", "lower"] (11) (sp_Grower_joined K) := by
  intro C hC
  subst hC
  obtain ⟨fd, F⟩ := T.D_Grower_joined
  obtain ⟨b, G⟩ := fn_Grower_joined (P := P) (w := w) (base := base) T F
  exact ⟨_, fd, T.cl_Grower, T.m_Grower_joined, b, G⟩
end Pt
end
section
set_option maxRecDepth 100000
set_option maxHeartbeats 4000000
namespace Pt
open PySem PySem.Spec PyProof.Rows L2
theorem RetG.f {K : PySem.W.Frag} {g d : Addr} {top : List Nat} {H H' : Hp} (hG : GrowerAt K H g d top) (m : Same (hid g d H) H') : SameF H H' := hG.sf.trans (same_f m)
def sp_Grower_grown (K : PySem.W.Frag) (n : Nat) : Sp := fun vs H Q _ => ∃ (g d : Addr) (top s : List Nat), vs = [.ref g, .str (sOf s)] ∧ GrowerAt K H g d top ∧ Row s ∧ 0 < s.length ∧ s.length < n ∧ RetG K g d top (fun v H' => ∃ r h, v = .ref r ∧ LimbAt K H' top r s h) H Q
theorem no_Grower_grown {K : PySem.W.Frag} (vs H Q E) : ¬ sp_Grower_grown K 0 vs H Q E := fun ⟨_, _, _, _, _, _, _, _, h, _⟩ => absurd h (Nat.not_lt_zero _)
abbrev sc_Grower_grown_N : List Str := ["self", "row", "cut"]
theorem sc_Grower_grown : FnScope sc_Grower_grown_N ["self", "row"] (defScope s_Grower_grown) := ⟨rfl, rfl, rfl, by decide +kernel, rfl, by decide +kernel, by decide +kernel⟩
theorem z_Grower_grown {P : Program} {w : World} {K : PySem.W.Frag} {mg : Str → Option Value} {base : Heap} (T : Tx K mg) : ∀ C, C = He.ga K "Grower" → Mt P w K mg base C "grown" ["self", "row"] ((60+0)) (sp_Grower_grown K 0) := by
  intro C hC
  subst hC
  obtain ⟨fd, F⟩ := T.D_Grower_grown
  exact ⟨_, fd, T.cl_Grower, T.m_Grower_grown, F.bindsN (fun _ _ _ _ _ _ us hl => match us, hl with | [_, _], _ => rfl), F.ok sc_Grower_grown (fun vs H Q E h => absurd h (no_Grower_grown _ _ _ _)) (fun cdv A outer s H vs Q E hr h => absurd h (no_Grower_grown _ _ _ _))⟩
theorem fn_Grower_grown {P : Program} {w : World} {K : PySem.W.Frag} {mg : Str → Option Value} {base : Heap} {n : Nat} (ih : ∀ C, C = He.ga K "Grower" → Mt P w K mg base C "grown" ["self", "row"] (60+n) (sp_Grower_grown K n)) (T : Tx K mg) {f : Addr} {fd : FuncData} (F : FunD K "grown" "Grower.grown" (defArgs s_Grower_grown) (defBody s_Grower_grown) (defScope s_Grower_grown) [] [] f fd) : Binds K fd ["self", "row"] [] ∧ FnOk P w K mg base CX0 ((60+n+1)) f fd ["self", "row"] (sp_Grower_grown K (n+1)) := by
  refine ⟨F.bindsN (fun _ _ _ _ _ _ us hl => match us, hl with | [_, _], _ => rfl), F.ok sc_Grower_grown (fun vs H Q E h => ?_) (fun cdv A outer s H vs Q E hr h => ?_)⟩
  · (obtain ⟨g, d, top, s, rfl, hG, rs, h0, hn, k⟩ := h)
    rfl
  · (obtain ⟨g, d, top, s, rfl, hG, rs, h0, hn, k⟩ := h)
    refine ⟨_, PSs.nox (pss_cons (ps_if (pt_cmpR op_eq (pe_callB call_len_str (by rfl) T.z_len (by decide +kernel) (pa_cons (pv 1) pa_nil)) pe_int (nomark _)) (pss_one (ps_ret (pe_ms (pv 0) (ok_Grower_leaf T) (hr.mono (by omega)) (pa_cons (pv 1) pa_nil)))) pss_nil)
      (pss_cons (ps_set (i := 2) sc_Grower_grown.nd rfl (Or.inl rfl) (pe_op op_fdivNat (pe_callB call_len_str (by rfl) T.z_len (by decide +kernel) (pa_cons (pv 1) pa_nil)) pe_int))
      (pss_one (ps_ret (pe_ms (pv 0) (ok_Grower_knot T) (hr.mono (by omega)) (pa_cons (pe_ms (pv 0) ih (hr.mono (by omega)) (pa_cons (pe_slice sl_str (pv 1) po_none (po_some (pv 2))) pa_nil)) (pa_cons (pe_ms (pv 0) ih (hr.mono (by omega)) (pa_cons (pe_slice sl_str (pv 1) (po_some (pv 2)) po_none) pa_nil)) pa_nil))))))), ?_⟩
    obtain ⟨dx, _, es, hg, _⟩ := id hG
    have r48 := rs.1
    refine ⟨_, rfl, _, rfl, zlen rs, rfl, _, rfl, ?_⟩
    rw [sOf_len]
    by_cases c : s.length = 1
    · refine iteDT (by rw [c]; rfl) ?_
      obtain ⟨y, rfl⟩ : ∃ y, s = [y] := by
        match s, c with
        | [y], _ => exact ⟨y, rfl⟩
      refine ⟨_, rfl, g, _, dx, _, rfl, hg, rfl, rfl, _, rfl, g, d, top, y, rfl, hG, rs.2 y (by simp), ?_⟩
      rintro v1 H1 m1 G1 ⟨r1, rfl, q1⟩
      exact k _ _ m1 G1 ⟨r1, _, rfl, q1⟩
    · refine iteDF (fun z => c (nV_inj z)) ?_
      refine ⟨_, rfl, _, rfl, zlen rs, (sOf s).length, 2, rfl, rfl, ⟨by decide, by decide⟩, ?_⟩
      rw [sOf_len s]
      refine ⟨_, rfl, g, _, dx, _, rfl, hg, rfl, rfl, _, rfl, g, _, dx, _, rfl, hg, rfl, rfl, _, rfl, _, rfl, _, rfl, _, rfl, zlen rs, ?_⟩
      rw [cutS_to (by omega)]
      refine ⟨g, d, top, _, rfl, hG, rs.sub (List.take_sublist _ _), by rw [List.length_take]; omega, by rw [List.length_take]; omega, ?_⟩
      rintro v1 H1 m1 G1 ⟨r1, h1, rfl, q1⟩
      obtain ⟨dx1, n1, es1, hg1, _⟩ := id G1
      refine ⟨_, rfl, g, _, dx1, _, rfl, hg1, rfl, rfl, _, rfl, _, rfl, _, rfl, _, rfl, zlen rs, ?_⟩
      rw [cutS_from (by omega)]
      refine ⟨g, d, top, _, rfl, G1, rs.sub (List.drop_sublist _ _), by rw [List.length_drop]; omega, by rw [List.length_drop]; omega, ?_⟩
      rintro v2 H2 m2 G2 ⟨r2, h2, rfl, q2⟩
      refine ⟨g, d, r1, r2, top, _, _, h1, h2, rfl, G2, q1.f (RetG.f G1 m2), q2, by rw [List.length_take, List.length_drop]; omega, ?_⟩
      rintro v3 H3 m3 G3 ⟨r3, rfl, q3⟩
      exact k _ _ (hid_trans (hid_trans m1 m2) m3) G3 ⟨r3, _, rfl, q3.cast (List.take_append_drop _ _)⟩
theorem st_Grower_grown {P : Program} {w : World} {K : PySem.W.Frag} {mg : Str → Option Value} {base : Heap} {n : Nat} (ih : ∀ C, C = He.ga K "Grower" → Mt P w K mg base C "grown" ["self", "row"] (60+n) (sp_Grower_grown K n)) (T : Tx K mg) : ∀ C, C = He.ga K "Grower" → Mt P w K mg base C "grown" ["self", "row"] ((60+n+1)) (sp_Grower_grown K (n+1)) := by
  intro C hC
  subst hC
  obtain ⟨fd, F⟩ := T.D_Grower_grown
  obtain ⟨b, G⟩ := fn_Grower_grown (P := P) (w := w) (base := base) ih T F
  exact ⟨_, fd, T.cl_Grower, T.m_Grower_grown, b, G⟩
theorem rec_Grower_grown {P : Program} {w : World} {K : PySem.W.Frag} {mg : Str → Option Value} {base : Heap} (T : Tx K mg) : ∀ n, ∀ C, C = He.ga K "Grower" → Mt P w K mg base C "grown" ["self", "row"] (60 + n) (sp_Grower_grown K n)
  | 0 => z_Grower_grown T
  | n + 1 => st_Grower_grown (rec_Grower_grown T n) T
theorem ok_Grower_grown {P : Program} {w : World} {K : PySem.W.Frag} {mg : Str → Option Value} {base : Heap} (T : Tx K mg) : ∀ C, C = He.ga K "Grower" → Mt P w K mg base C "grown" ["self", "row"] 109 (sp_Grower_grown K 49) := rec_Grower_grown T 49
def sp_Grower_put (K : PySem.W.Frag) (n : Nat) : Sp := fun vs H Q _ => ∃ (g d a : Addr) (top s : List Nat) (h pl c : Nat), vs = [.ref g, .ref a, nV pl, .str (sOf [c])] ∧ GrowerAt K H g d top ∧ LimbAt K H top a s h ∧ pl ≤ s.length ∧ s.length + 1 ≤ 48 ∧ Sgn c ∧ s.length < n ∧
  RetG K g d top (fun v H' => ∃ r h, v = .ref r ∧ LimbAt K H' top r (s.take pl ++ [c] ++ s.drop pl) h) H Q
theorem no_Grower_put {K : PySem.W.Frag} (vs H Q E) : ¬ sp_Grower_put K 0 vs H Q E := fun ⟨_, _, _, _, _, _, _, _, _, _, _, _, _, _, h, _⟩ => absurd h (Nat.not_lt_zero _)
abbrev sc_Grower_put_N : List Str := ["self", "limb", "place", "sign", "cut"]
theorem sc_Grower_put : FnScope sc_Grower_put_N ["self", "limb", "place", "sign"] (defScope s_Grower_put) := ⟨rfl, rfl, rfl, by decide +kernel, rfl, by decide +kernel, by decide +kernel⟩
theorem z_Grower_put {P : Program} {w : World} {K : PySem.W.Frag} {mg : Str → Option Value} {base : Heap} (T : Tx K mg) : ∀ C, C = He.ga K "Grower" → Mt P w K mg base C "put" ["self", "limb", "place", "sign"] ((60+0)) (sp_Grower_put K 0) := by
  intro C hC
  subst hC
  obtain ⟨fd, F⟩ := T.D_Grower_put
  exact ⟨_, fd, T.cl_Grower, T.m_Grower_put, F.bindsN (fun _ _ _ _ _ _ us hl => match us, hl with | [_, _, _, _], _ => rfl), F.ok sc_Grower_put (fun vs H Q E h => absurd h (no_Grower_put _ _ _ _)) (fun cdv A outer s H vs Q E hr h => absurd h (no_Grower_put _ _ _ _))⟩
theorem fn_Grower_put {P : Program} {w : World} {K : PySem.W.Frag} {mg : Str → Option Value} {base : Heap} {n : Nat} (ih : ∀ C, C = He.ga K "Grower" → Mt P w K mg base C "put" ["self", "limb", "place", "sign"] (60+n) (sp_Grower_put K n)) (T : Tx K mg) {f : Addr} {fd : FuncData} (F : FunD K "put" "Grower.put" (defArgs s_Grower_put) (defBody s_Grower_put) (defScope s_Grower_put) [] [] f fd) : Binds K fd ["self", "limb", "place", "sign"] [] ∧ FnOk P w K mg base CX0 ((60+n+1)) f fd ["self", "limb", "place", "sign"] (sp_Grower_put K (n+1)) := by
  refine ⟨F.bindsN (fun _ _ _ _ _ _ us hl => match us, hl with | [_, _, _, _], _ => rfl), F.ok sc_Grower_put (fun vs H Q E h => ?_) (fun cdv A outer s H vs Q E hr h => ?_)⟩
  · (obtain ⟨g, d, a, top, s, h, pl, c, rfl, hG, hL, hpl, hz, hc, hn, k⟩ := h)
    rfl
  · (obtain ⟨g, d, a, top, s, h, pl, c, rfl, hG, hL, hpl, hz, hc, hn, k⟩ := h)
    refine ⟨_, PSs.nox (pss_cons (ps_if (pt_cmp (pc_isN (pe_fld (pv 1) rfl))) (pss_cons (ps_if (pt_cmpR op_eq (pv 2) pe_int (nomark _)) (pss_one (ps_ret (pe_ms (pv 0) (ok_Grower_knot T) (hr.mono (by omega)) (pa_cons (pe_ms (pv 0) (ok_Grower_leaf T) (hr.mono (by omega)) (pa_cons (pv 3) pa_nil)) (pa_cons (pv 1) pa_nil))))) pss_nil)
      (pss_one (ps_ret (pe_ms (pv 0) (ok_Grower_knot T) (hr.mono (by omega)) (pa_cons (pv 1) (pa_cons (pe_ms (pv 0) (ok_Grower_leaf T) (hr.mono (by omega)) (pa_cons (pv 3) pa_nil)) pa_nil)))))) pss_nil)
      (pss_cons (ps_set (i := 4) sc_Grower_put.nd rfl (Or.inl rfl) (pe_fld (pe_fld (pv 1) rfl) rfl))
      (pss_cons (ps_if (pt_cmpR op_le (pv 2) (pv 4) (nomark _)) (pss_one (ps_ret (pe_ms (pv 0) (ok_Grower_joined T) (hr.mono (by omega)) (pa_cons (pe_ms (pv 0) ih (hr.mono (by omega)) (pa_cons (pe_fld (pv 1) rfl) (pa_cons (pv 2) (pa_cons (pv 3) pa_nil)))) (pa_cons (pe_fld (pv 1) rfl) pa_nil))))) pss_nil)
      (pss_one (ps_ret (pe_ms (pv 0) (ok_Grower_joined T) (hr.mono (by omega)) (pa_cons (pe_fld (pv 1) rfl) (pa_cons (pe_ms (pv 0) ih (hr.mono (by omega)) (pa_cons (pe_fld (pv 1) rfl) (pa_cons (pe_op op_sub (pv 2) (pv 4)) (pa_cons (pv 3) pa_nil)))) pa_nil)))))))), ?_⟩
    have cl := T.cl_Limb
    have nu := T.na_Limb_upper
    have nl := T.na_Limb_lower
    obtain ⟨dx, _, es, hg, _⟩ := id hG
    have hL0 := hL
    cases hL with
    | @leaf _ dxa p n y t oa hp =>
      refine ⟨_, rfl, a, _, dxa, _, _, rfl, oa, cl, nu, rfl, _, rfl, iteDT rfl ?_⟩
      refine ⟨_, rfl, rfl, _, rfl, ?_⟩
      by_cases e : pl = 0
      · subst e
        refine iteDT rfl ?_
        refine ⟨_, rfl, g, _, dx, _, rfl, hg, rfl, rfl, _, rfl, g, _, dx, _, rfl, hg, rfl, rfl, _, rfl, g, d, top, c, rfl, hG, hc, ?_⟩
        rintro v1 H1 m1 G1 ⟨r1, rfl, q1⟩
        refine ⟨_, rfl, g, d, r1, a, top, [c], [y], _, _, rfl, G1, q1, hL0.f (RetG.f hG m1), by simp, ?_⟩
        rintro v2 H2 m2 G2 ⟨r2, rfl, q2⟩
        exact k _ _ (hid_trans m1 m2) G2 ⟨r2, _, rfl, q2⟩
      · refine iteDF (fun z => e (nV_inj z)) ?_
        have e1 : pl = 1 := by simp at hpl; omega
        subst e1
        refine ⟨_, rfl, g, _, dx, _, rfl, hg, rfl, rfl, _, rfl, _, rfl, g, _, dx, _, rfl, hg, rfl, rfl, _, rfl, g, d, top, c, rfl, hG, hc, ?_⟩
        rintro v1 H1 m1 G1 ⟨r1, rfl, q1⟩
        refine ⟨g, d, a, r1, top, [y], [c], _, _, rfl, G1, hL0.f (RetG.f hG m1), q1, by simp, ?_⟩
        rintro v2 H2 m2 G2 ⟨r2, rfl, q2⟩
        exact k _ _ (hid_trans m1 m2) G2 ⟨r2, _, rfl, q2⟩
    | @knot _ dxa p u l n s1 s2 h1 h2 t oa hp hu hl =>
      have ls : (s1 ++ s2).length = s1.length + s2.length := List.length_append
      have p1 := hu.pos
      have p2 := hl.pos
      obtain ⟨dxu, pu, iu, uu, lu, tu, ou, _⟩ := hu.piece
      refine ⟨_, rfl, a, _, dxa, _, _, rfl, oa, cl, nu, rfl, _, rfl, iteDF (fun z => by cases z) ?_⟩
      refine ⟨_, rfl, a, _, dxa, _, _, rfl, oa, cl, nu, rfl, u, _, dxu, _, _, rfl, ou, cl, T.na_Limb_many, rfl, ?_⟩
      refine ⟨_, rfl, _, rfl, _, _, rfl, rfl, _, rfl, ?_⟩
      by_cases e : pl ≤ s1.length
      · refine iteDT (by omega) ?_
        refine ⟨_, rfl, g, _, dx, _, rfl, hg, rfl, rfl, _, rfl, g, _, dx, _, rfl, hg, rfl, rfl, _, rfl, a, _, dxa, _, _, rfl, oa, cl, nu, rfl, _, rfl, _, rfl, g, d, u, top, s1, h1, pl, c, rfl, hG, hu, e, by omega, hc, by omega, ?_⟩
        rintro v1 H1 m1 G1 ⟨r1, j1, rfl, q1⟩
        have f1 := RetG.f hG m1
        have lq : (s1.take pl ++ [c] ++ s1.drop pl).length = s1.length + 1 := by simp; omega
        refine ⟨_, rfl, a, _, dxa, _, _, rfl, f1 _ _ oa rfl, cl, nl, rfl, g, d, r1, l, top, _, s2, _, _, rfl, G1, q1, hl.f f1, by rw [lq]; omega, ?_⟩
        rintro v2 H2 m2 G2 ⟨r2, j2, rfl, q2⟩
        refine k _ _ (hid_trans m1 m2) G2 ⟨r2, _, rfl, q2.cast ?_⟩
        rw [List.take_append_of_le_length e, List.drop_append_of_le_length e]
        simp
      · refine iteDF (by omega) ?_
        refine ⟨_, rfl, g, _, dx, _, rfl, hg, rfl, rfl, _, rfl, a, _, dxa, _, _, rfl, oa, cl, nu, rfl, _, rfl, g, _, dx, _, rfl, hg, rfl, rfl, _, rfl, a, _, dxa, _, _, rfl, oa, cl, nl, rfl, _, rfl, _, rfl, _, _, rfl, rfl, _, rfl, g, d, l, top, s2, h2, pl - s1.length, c, congrArg (fun z => [V.ref g, V.ref l, z, V.str (sOf [c])]) (natSub (by omega)), hG, hl, by omega, by omega, hc, by omega, ?_⟩
        rintro v1 H1 m1 G1 ⟨r1, j1, rfl, q1⟩
        have f1 := RetG.f hG m1
        have lq : (s2.take (pl - s1.length) ++ [c] ++ s2.drop (pl - s1.length)).length = s2.length + 1 := by simp; omega
        refine ⟨g, d, u, r1, top, s1, _, _, _, rfl, G1, hu.f f1, q1, by rw [lq]; omega, ?_⟩
        rintro v2 H2 m2 G2 ⟨r2, j2, rfl, q2⟩
        refine k _ _ (hid_trans m1 m2) G2 ⟨r2, _, rfl, q2.cast ?_⟩
        rw [List.take_append, List.drop_append, List.take_of_length_le (show s1.length ≤ pl by omega), List.drop_of_length_le (show s1.length ≤ pl by omega)]
        simp
theorem st_Grower_put {P : Program} {w : World} {K : PySem.W.Frag} {mg : Str → Option Value} {base : Heap} {n : Nat} (ih : ∀ C, C = He.ga K "Grower" → Mt P w K mg base C "put" ["self", "limb", "place", "sign"] (60+n) (sp_Grower_put K n)) (T : Tx K mg) : ∀ C, C = He.ga K "Grower" → Mt P w K mg base C "put" ["self", "limb", "place", "sign"] ((60+n+1)) (sp_Grower_put K (n+1)) := by
  intro C hC
  subst hC
  obtain ⟨fd, F⟩ := T.D_Grower_put
  obtain ⟨b, G⟩ := fn_Grower_put (P := P) (w := w) (base := base) ih T F
  exact ⟨_, fd, T.cl_Grower, T.m_Grower_put, b, G⟩
theorem rec_Grower_put {P : Program} {w : World} {K : PySem.W.Frag} {mg : Str → Option Value} {base : Heap} (T : Tx K mg) : ∀ n, ∀ C, C = He.ga K "Grower" → Mt P w K mg base C "put" ["self", "limb", "place", "sign"] (60 + n) (sp_Grower_put K n)
  | 0 => z_Grower_put T
  | n + 1 => st_Grower_put (rec_Grower_put T n) T
theorem ok_Grower_put {P : Program} {w : World} {K : PySem.W.Frag} {mg : Str → Option Value} {base : Heap} (T : Tx K mg) : ∀ C, C = He.ga K "Grower" → Mt P w K mg base C "put" ["self", "limb", "place", "sign"] 109 (sp_Grower_put K 49) := rec_Grower_put T 49
def OptL (K : PySem.W.Frag) (H : Hp) (top : List Nat) (v : V) (s : List Nat) : Prop := (s = [] ∧ v = .non) ∨ ∃ r h, v = .ref r ∧ LimbAt K H top r s h
def sp_Grower_drop (K : PySem.W.Frag) (n : Nat) : Sp := fun vs H Q _ => ∃ (g d a : Addr) (top s : List Nat) (h pl : Nat), vs = [.ref g, .ref a, nV pl] ∧ GrowerAt K H g d top ∧ LimbAt K H top a s h ∧ pl < s.length ∧ s.length < n ∧
  RetG K g d top (fun v H' => OptL K H' top v (s.take pl ++ s.drop (pl + 1))) H Q
theorem no_Grower_drop {K : PySem.W.Frag} (vs H Q E) : ¬ sp_Grower_drop K 0 vs H Q E := fun ⟨_, _, _, _, _, _, _, _, _, _, _, h, _⟩ => absurd h (Nat.not_lt_zero _)
abbrev sc_Grower_drop_N : List Str := ["self", "limb", "place", "cut", "rest"]
theorem sc_Grower_drop : FnScope sc_Grower_drop_N ["self", "limb", "place"] (defScope s_Grower_drop) := ⟨rfl, rfl, rfl, by decide +kernel, rfl, by decide +kernel, by decide +kernel⟩
theorem z_Grower_drop {P : Program} {w : World} {K : PySem.W.Frag} {mg : Str → Option Value} {base : Heap} (T : Tx K mg) : ∀ C, C = He.ga K "Grower" → Mt P w K mg base C "drop" ["self", "limb", "place"] ((60+0)) (sp_Grower_drop K 0) := by
  intro C hC
  subst hC
  obtain ⟨fd, F⟩ := T.D_Grower_drop
  exact ⟨_, fd, T.cl_Grower, T.m_Grower_drop, F.bindsN (fun _ _ _ _ _ _ us hl => match us, hl with | [_, _, _], _ => rfl), F.ok sc_Grower_drop (fun vs H Q E h => absurd h (no_Grower_drop _ _ _ _)) (fun cdv A outer s H vs Q E hr h => absurd h (no_Grower_drop _ _ _ _))⟩
theorem fn_Grower_drop {P : Program} {w : World} {K : PySem.W.Frag} {mg : Str → Option Value} {base : Heap} {n : Nat} (ih : ∀ C, C = He.ga K "Grower" → Mt P w K mg base C "drop" ["self", "limb", "place"] (60+n) (sp_Grower_drop K n)) (T : Tx K mg) {f : Addr} {fd : FuncData} (F : FunD K "drop" "Grower.drop" (defArgs s_Grower_drop) (defBody s_Grower_drop) (defScope s_Grower_drop) [] [] f fd) : Binds K fd ["self", "limb", "place"] [] ∧ FnOk P w K mg base CX0 ((60+n+1)) f fd ["self", "limb", "place"] (sp_Grower_drop K (n+1)) := by
  refine ⟨F.bindsN (fun _ _ _ _ _ _ us hl => match us, hl with | [_, _, _], _ => rfl), F.ok sc_Grower_drop (fun vs H Q E h => ?_) (fun cdv A outer s H vs Q E hr h => ?_)⟩
  · (obtain ⟨g, d, a, top, s, h, pl, rfl, hG, hL, hpl, hn, k⟩ := h)
    rfl
  · (obtain ⟨g, d, a, top, s, h, pl, rfl, hG, hL, hpl, hn, k⟩ := h)
    refine ⟨_, PSs.nox (pss_cons (ps_if (pt_cmp (pc_isN (pe_fld (pv 1) rfl))) (pss_one (ps_ret pe_non)) pss_nil)
      (pss_cons (ps_set (i := 3) sc_Grower_drop.nd rfl (Or.inl rfl) (pe_fld (pe_fld (pv 1) rfl) rfl))
      (pss_cons (ps_if (pt_cmpR op_lt (pv 2) (pv 3) (nomark _)) (pss_cons (ps_set (i := 4) sc_Grower_drop.nd rfl (Or.inl rfl) (pe_ms (pv 0) ih (hr.mono (by omega)) (pa_cons (pe_fld (pv 1) rfl) (pa_cons (pv 2) pa_nil))))
      (pss_cons (ps_if (pt_cmp (pc_isN (pv 4))) (pss_one (ps_ret (pe_fld (pv 1) rfl))) pss_nil)
      (pss_one (ps_ret (pe_ms (pv 0) (ok_Grower_joined T) (hr.mono (by omega)) (pa_cons (pv 4) (pa_cons (pe_fld (pv 1) rfl) pa_nil))))))) pss_nil)
      (pss_cons (ps_set (i := 4) sc_Grower_drop.nd rfl (Or.inl rfl) (pe_ms (pv 0) ih (hr.mono (by omega)) (pa_cons (pe_fld (pv 1) rfl) (pa_cons (pe_op op_sub (pv 2) (pv 3)) pa_nil))))
      (pss_cons (ps_if (pt_cmp (pc_isN (pv 4))) (pss_one (ps_ret (pe_fld (pv 1) rfl))) pss_nil)
      (pss_one (ps_ret (pe_ms (pv 0) (ok_Grower_joined T) (hr.mono (by omega)) (pa_cons (pe_fld (pv 1) rfl) (pa_cons (pv 4) pa_nil)))))))))), ?_⟩
    have cl := T.cl_Limb
    have nu := T.na_Limb_upper
    have nl := T.na_Limb_lower
    obtain ⟨dx, _, es, hg, _⟩ := id hG
    have r48 := hL.row.1.1
    cases hL with
    | @leaf _ dxa p n y t oa hp =>
      refine ⟨_, rfl, a, _, dxa, _, _, rfl, oa, cl, nu, rfl, _, rfl, iteDT rfl ?_⟩
      have e1 : pl = 0 := by simp at hpl; omega
      subst e1
      exact k _ _ (hid_of (Same.refl H)) hG (.inl ⟨rfl, rfl⟩)
    | @knot _ dxa p u l n s1 s2 h1 h2 t oa hp hu hl =>
      have ls : (s1 ++ s2).length = s1.length + s2.length := List.length_append
      have p1 := hu.pos
      have p2 := hl.pos
      obtain ⟨dxu, pu, iu, uu, lu, tu, ou, _⟩ := hu.piece
      refine ⟨_, rfl, a, _, dxa, _, _, rfl, oa, cl, nu, rfl, _, rfl, iteDF (fun z => by cases z) ?_⟩
      refine ⟨_, rfl, a, _, dxa, _, _, rfl, oa, cl, nu, rfl, u, _, dxu, _, _, rfl, ou, cl, T.na_Limb_many, rfl, ?_⟩
      refine ⟨_, rfl, _, rfl, _, _, rfl, rfl, _, rfl, ?_⟩
      by_cases e : pl < s1.length
      · refine iteDT (by omega) ?_
        have eq : (s1 ++ s2).take pl ++ (s1 ++ s2).drop (pl + 1) = (s1.take pl ++ s1.drop (pl + 1)) ++ s2 := by
          rw [List.take_append_of_le_length (by omega), List.drop_append_of_le_length (by omega)]
          simp
        rw [eq] at k
        refine ⟨_, rfl, g, _, dx, _, rfl, hg, rfl, rfl, _, rfl, a, _, dxa, _, _, rfl, oa, cl, nu, rfl, _, rfl, g, d, u, top, s1, h1, pl, rfl, hG, hu, e, by omega, ?_⟩
        intro v1 H1 m1 G1 q1
        have f1 := RetG.f hG m1
        obtain ⟨dx1, n1, es1, hg1, _⟩ := id G1
        rcases q1 with ⟨q1, rfl⟩ | ⟨r1, j1, rfl, q1⟩
        · refine ⟨_, rfl, _, rfl, iteDT rfl ?_⟩
          refine ⟨_, rfl, a, _, dxa, _, _, rfl, f1 _ _ oa rfl, cl, nl, rfl, k _ _ m1 G1 (.inr ⟨l, h2, rfl, ?_⟩)⟩
          rw [q1]
          exact hl.f f1
        · refine ⟨_, rfl, _, rfl, iteDF (fun z => by cases z) ?_⟩
          have lq : (s1.take pl ++ s1.drop (pl + 1)).length ≤ s1.length := by simp; omega
          refine ⟨_, rfl, g, _, dx1, _, rfl, hg1, rfl, rfl, _, rfl, _, rfl, a, _, dxa, _, _, rfl, f1 _ _ oa rfl, cl, nl, rfl, g, d, r1, l, top, _, s2, _, _, rfl, G1, q1, hl.f f1, by omega, ?_⟩
          rintro v2 H2 m2 G2 ⟨r2, j2, rfl, q2⟩
          exact k _ _ (hid_trans m1 m2) G2 (.inr ⟨r2, _, rfl, q2⟩)
      · refine iteDF (by omega) ?_
        have eq : (s1 ++ s2).take pl ++ (s1 ++ s2).drop (pl + 1) = s1 ++ (s2.take (pl - s1.length) ++ s2.drop (pl - s1.length + 1)) := by
          have e1 : pl + 1 - s1.length = pl - s1.length + 1 := by omega
          rw [List.take_append, List.drop_append, List.take_of_length_le (show s1.length ≤ pl by omega), List.drop_of_length_le (show s1.length ≤ pl + 1 by omega), e1]
          simp
        rw [eq] at k
        refine ⟨_, rfl, g, _, dx, _, rfl, hg, rfl, rfl, _, rfl, a, _, dxa, _, _, rfl, oa, cl, nl, rfl, _, rfl, _, rfl, _, _, rfl, rfl, g, d, l, top, s2, h2, pl - s1.length, congrArg (fun z => [V.ref g, V.ref l, z]) (natSub (by omega)), hG, hl, by omega, by omega, ?_⟩
        intro v1 H1 m1 G1 q1
        have f1 := RetG.f hG m1
        obtain ⟨dx1, n1, es1, hg1, _⟩ := id G1
        rcases q1 with ⟨q1, rfl⟩ | ⟨r1, j1, rfl, q1⟩
        · refine ⟨_, rfl, _, rfl, iteDT rfl ?_⟩
          refine ⟨_, rfl, a, _, dxa, _, _, rfl, f1 _ _ oa rfl, cl, nu, rfl, k _ _ m1 G1 (.inr ⟨u, h1, rfl, ?_⟩)⟩
          rw [q1, List.append_nil]
          exact hu.f f1
        · refine ⟨_, rfl, _, rfl, iteDF (fun z => by cases z) ?_⟩
          have lq : (s2.take (pl - s1.length) ++ s2.drop (pl - s1.length + 1)).length ≤ s2.length := by simp; omega
          refine ⟨_, rfl, g, _, dx1, _, rfl, hg1, rfl, rfl, _, rfl, a, _, dxa, _, _, rfl, f1 _ _ oa rfl, cl, nu, rfl, _, rfl, g, d, u, r1, top, s1, _, _, _, rfl, G1, hu.f f1, q1, by omega, ?_⟩
          rintro v2 H2 m2 G2 ⟨r2, j2, rfl, q2⟩
          exact k _ _ (hid_trans m1 m2) G2 (.inr ⟨r2, _, rfl, q2⟩)
theorem st_Grower_drop {P : Program} {w : World} {K : PySem.W.Frag} {mg : Str → Option Value} {base : Heap} {n : Nat} (ih : ∀ C, C = He.ga K "Grower" → Mt P w K mg base C "drop" ["self", "limb", "place"] (60+n) (sp_Grower_drop K n)) (T : Tx K mg) : ∀ C, C = He.ga K "Grower" → Mt P w K mg base C "drop" ["self", "limb", "place"] ((60+n+1)) (sp_Grower_drop K (n+1)) := by
  intro C hC
  subst hC
  obtain ⟨fd, F⟩ := T.D_Grower_drop
  obtain ⟨b, G⟩ := fn_Grower_drop (P := P) (w := w) (base := base) ih T F
  exact ⟨_, fd, T.cl_Grower, T.m_Grower_drop, b, G⟩
theorem rec_Grower_drop {P : Program} {w : World} {K : PySem.W.Frag} {mg : Str → Option Value} {base : Heap} (T : Tx K mg) : ∀ n, ∀ C, C = He.ga K "Grower" → Mt P w K mg base C "drop" ["self", "limb", "place"] (60 + n) (sp_Grower_drop K n)
  | 0 => z_Grower_drop T
  | n + 1 => st_Grower_drop (rec_Grower_drop T n) T
theorem ok_Grower_drop {P : Program} {w : World} {K : PySem.W.Frag} {mg : Str → Option Value} {base : Heap} (T : Tx K mg) : ∀ C, C = He.ga K "Grower" → Mt P w K mg base C "drop" ["self", "limb", "place"] 109 (sp_Grower_drop K 49) := rec_Grower_drop T 49
def sp_Grower_change (K : PySem.W.Frag) (n : Nat) : Sp := fun vs H Q _ => ∃ (g d a : Addr) (top s : List Nat) (h pl c : Nat), vs = [.ref g, .ref a, nV pl, .str (sOf [c])] ∧ GrowerAt K H g d top ∧ LimbAt K H top a s h ∧ pl < s.length ∧ Sgn c ∧ s.length < n ∧
  RetG K g d top (fun v H' => ∃ r h, v = .ref r ∧ LimbAt K H' top r (s.take pl ++ [c] ++ s.drop (pl + 1)) h) H Q
theorem no_Grower_change {K : PySem.W.Frag} (vs H Q E) : ¬ sp_Grower_change K 0 vs H Q E := fun ⟨_, _, _, _, _, _, _, _, _, _, _, _, _, h, _⟩ => absurd h (Nat.not_lt_zero _)
abbrev sc_Grower_change_N : List Str := ["self", "limb", "place", "sign", "cut"]
theorem sc_Grower_change : FnScope sc_Grower_change_N ["self", "limb", "place", "sign"] (defScope s_Grower_change) := ⟨rfl, rfl, rfl, by decide +kernel, rfl, by decide +kernel, by decide +kernel⟩
theorem z_Grower_change {P : Program} {w : World} {K : PySem.W.Frag} {mg : Str → Option Value} {base : Heap} (T : Tx K mg) : ∀ C, C = He.ga K "Grower" → Mt P w K mg base C "change" ["self", "limb", "place", "sign"] ((60+0)) (sp_Grower_change K 0) := by
  intro C hC
  subst hC
  obtain ⟨fd, F⟩ := T.D_Grower_change
  exact ⟨_, fd, T.cl_Grower, T.m_Grower_change, F.bindsN (fun _ _ _ _ _ _ us hl => match us, hl with | [_, _, _, _], _ => rfl), F.ok sc_Grower_change (fun vs H Q E h => absurd h (no_Grower_change _ _ _ _)) (fun cdv A outer s H vs Q E hr h => absurd h (no_Grower_change _ _ _ _))⟩
theorem fn_Grower_change {P : Program} {w : World} {K : PySem.W.Frag} {mg : Str → Option Value} {base : Heap} {n : Nat} (ih : ∀ C, C = He.ga K "Grower" → Mt P w K mg base C "change" ["self", "limb", "place", "sign"] (60+n) (sp_Grower_change K n)) (T : Tx K mg) {f : Addr} {fd : FuncData} (F : FunD K "change" "Grower.change" (defArgs s_Grower_change) (defBody s_Grower_change) (defScope s_Grower_change) [] [] f fd) : Binds K fd ["self", "limb", "place", "sign"] [] ∧ FnOk P w K mg base CX0 ((60+n+1)) f fd ["self", "limb", "place", "sign"] (sp_Grower_change K (n+1)) := by
  refine ⟨F.bindsN (fun _ _ _ _ _ _ us hl => match us, hl with | [_, _, _, _], _ => rfl), F.ok sc_Grower_change (fun vs H Q E h => ?_) (fun cdv A outer s H vs Q E hr h => ?_)⟩
  · (obtain ⟨g, d, a, top, s, h, pl, c, rfl, hG, hL, hpl, hc, hn, k⟩ := h)
    rfl
  · (obtain ⟨g, d, a, top, s, h, pl, c, rfl, hG, hL, hpl, hc, hn, k⟩ := h)
    refine ⟨_, PSs.nox (pss_cons (ps_if (pt_cmp (pc_isN (pe_fld (pv 1) rfl))) (pss_one (ps_ret (pe_ms (pv 0) (ok_Grower_leaf T) (hr.mono (by omega)) (pa_cons (pv 3) pa_nil)))) pss_nil)
      (pss_cons (ps_set (i := 4) sc_Grower_change.nd rfl (Or.inl rfl) (pe_fld (pe_fld (pv 1) rfl) rfl))
      (pss_cons (ps_if (pt_cmpR op_lt (pv 2) (pv 4) (nomark _)) (pss_one (ps_ret (pe_ms (pv 0) (ok_Grower_knot T) (hr.mono (by omega)) (pa_cons (pe_ms (pv 0) ih (hr.mono (by omega)) (pa_cons (pe_fld (pv 1) rfl) (pa_cons (pv 2) (pa_cons (pv 3) pa_nil)))) (pa_cons (pe_fld (pv 1) rfl) pa_nil))))) pss_nil)
      (pss_one (ps_ret (pe_ms (pv 0) (ok_Grower_knot T) (hr.mono (by omega)) (pa_cons (pe_fld (pv 1) rfl) (pa_cons (pe_ms (pv 0) ih (hr.mono (by omega)) (pa_cons (pe_fld (pv 1) rfl) (pa_cons (pe_op op_sub (pv 2) (pv 4)) (pa_cons (pv 3) pa_nil)))) pa_nil)))))))), ?_⟩
    have cl := T.cl_Limb
    have nu := T.na_Limb_upper
    have nl := T.na_Limb_lower
    obtain ⟨dx, _, es, hg, _⟩ := id hG
    have r48 := hL.row.1.1
    cases hL with
    | @leaf _ dxa p n y t oa hp =>
      refine ⟨_, rfl, a, _, dxa, _, _, rfl, oa, cl, nu, rfl, _, rfl, iteDT rfl ?_⟩
      have e1 : pl = 0 := by simp at hpl; omega
      subst e1
      refine ⟨_, rfl, g, _, dx, _, rfl, hg, rfl, rfl, _, rfl, g, d, top, c, rfl, hG, hc, ?_⟩
      rintro v1 H1 m1 G1 ⟨r1, rfl, q1⟩
      exact k _ _ m1 G1 ⟨r1, _, rfl, q1⟩
    | @knot _ dxa p u l n s1 s2 h1 h2 t oa hp hu hl =>
      have ls : (s1 ++ s2).length = s1.length + s2.length := List.length_append
      have p1 := hu.pos
      have p2 := hl.pos
      obtain ⟨dxu, pu, iu, uu, lu, tu, ou, _⟩ := hu.piece
      refine ⟨_, rfl, a, _, dxa, _, _, rfl, oa, cl, nu, rfl, _, rfl, iteDF (fun z => by cases z) ?_⟩
      refine ⟨_, rfl, a, _, dxa, _, _, rfl, oa, cl, nu, rfl, u, _, dxu, _, _, rfl, ou, cl, T.na_Limb_many, rfl, ?_⟩
      refine ⟨_, rfl, _, rfl, _, _, rfl, rfl, _, rfl, ?_⟩
      by_cases e : pl < s1.length
      · refine iteDT (by omega) ?_
        refine ⟨_, rfl, g, _, dx, _, rfl, hg, rfl, rfl, _, rfl, g, _, dx, _, rfl, hg, rfl, rfl, _, rfl, a, _, dxa, _, _, rfl, oa, cl, nu, rfl, _, rfl, _, rfl, g, d, u, top, s1, h1, pl, c, rfl, hG, hu, e, hc, by omega, ?_⟩
        rintro v1 H1 m1 G1 ⟨r1, j1, rfl, q1⟩
        have f1 := RetG.f hG m1
        have lq : (s1.take pl ++ [c] ++ s1.drop (pl + 1)).length = s1.length := by simp; omega
        refine ⟨_, rfl, a, _, dxa, _, _, rfl, f1 _ _ oa rfl, cl, nl, rfl, g, d, r1, l, top, _, s2, _, _, rfl, G1, q1, hl.f f1, by rw [lq]; omega, ?_⟩
        rintro v2 H2 m2 G2 ⟨r2, rfl, q2⟩
        refine k _ _ (hid_trans m1 m2) G2 ⟨r2, _, rfl, q2.cast ?_⟩
        rw [List.take_append_of_le_length (by omega), List.drop_append_of_le_length (by omega)]
        simp
      · refine iteDF (by omega) ?_
        refine ⟨_, rfl, g, _, dx, _, rfl, hg, rfl, rfl, _, rfl, a, _, dxa, _, _, rfl, oa, cl, nu, rfl, _, rfl, g, _, dx, _, rfl, hg, rfl, rfl, _, rfl, a, _, dxa, _, _, rfl, oa, cl, nl, rfl, _, rfl, _, rfl, _, _, rfl, rfl, _, rfl, g, d, l, top, s2, h2, pl - s1.length, c, congrArg (fun z => [V.ref g, V.ref l, z, V.str (sOf [c])]) (natSub (by omega)), hG, hl, by omega, hc, by omega, ?_⟩
        rintro v1 H1 m1 G1 ⟨r1, j1, rfl, q1⟩
        have f1 := RetG.f hG m1
        have lq : (s2.take (pl - s1.length) ++ [c] ++ s2.drop (pl - s1.length + 1)).length = s2.length := by simp; omega
        refine ⟨g, d, u, r1, top, s1, _, _, _, rfl, G1, hu.f f1, q1, by rw [lq]; omega, ?_⟩
        rintro v2 H2 m2 G2 ⟨r2, rfl, q2⟩
        refine k _ _ (hid_trans m1 m2) G2 ⟨r2, _, rfl, q2.cast ?_⟩
        have e1 : pl + 1 - s1.length = pl - s1.length + 1 := by omega
        rw [List.take_append, List.drop_append, List.take_of_length_le (show s1.length ≤ pl by omega), List.drop_of_length_le (show s1.length ≤ pl + 1 by omega), e1]
        simp
theorem st_Grower_change {P : Program} {w : World} {K : PySem.W.Frag} {mg : Str → Option Value} {base : Heap} {n : Nat} (ih : ∀ C, C = He.ga K "Grower" → Mt P w K mg base C "change" ["self", "limb", "place", "sign"] (60+n) (sp_Grower_change K n)) (T : Tx K mg) : ∀ C, C = He.ga K "Grower" → Mt P w K mg base C "change" ["self", "limb", "place", "sign"] ((60+n+1)) (sp_Grower_change K (n+1)) := by
  intro C hC
  subst hC
  obtain ⟨fd, F⟩ := T.D_Grower_change
  obtain ⟨b, G⟩ := fn_Grower_change (P := P) (w := w) (base := base) ih T F
  exact ⟨_, fd, T.cl_Grower, T.m_Grower_change, b, G⟩
theorem rec_Grower_change {P : Program} {w : World} {K : PySem.W.Frag} {mg : Str → Option Value} {base : Heap} (T : Tx K mg) : ∀ n, ∀ C, C = He.ga K "Grower" → Mt P w K mg base C "change" ["self", "limb", "place", "sign"] (60 + n) (sp_Grower_change K n)
  | 0 => z_Grower_change T
  | n + 1 => st_Grower_change (rec_Grower_change T n) T
theorem ok_Grower_change {P : Program} {w : World} {K : PySem.W.Frag} {mg : Str → Option Value} {base : Heap} (T : Tx K mg) : ∀ C, C = He.ga K "Grower" → Mt P w K mg base C "change" ["self", "limb", "place", "sign"] 109 (sp_Grower_change K 49) := rec_Grower_change T 49
end Pt
end
section
set_option maxRecDepth 100000
set_option maxHeartbeats 4000000
namespace Pt
open PySem PySem.Spec PyProof.Rows L2
theorem OptL.f {K : PySem.W.Frag} {H H' : Hp} {top s : List Nat} {v : V} (m : SameF H H') (h : OptL K H top v s) : OptL K H' top v s := h.imp id fun ⟨r, h, e, q⟩ => ⟨r, h, e, q.f m⟩
theorem OptL.row {K : PySem.W.Frag} {H : Hp} {top s : List Nat} {v : V} (h : OptL K H top v s) : Row s := by
  rcases h with ⟨rfl, _⟩ | ⟨r, h, _, q⟩
  · exact ⟨Nat.zero_le _, fun c hc => by cases hc⟩
  · exact q.row.1
abbrev kFs (g : Addr) (rv : V) (fr : Int) : List (Str × V) := [("grower", .ref g), ("root", rv), ("fresh", .int fr)]
def KeptAt (K : PySem.W.Frag) (H : Hp) (x g d : Addr) (top side : List Nat) : Prop :=
  ∃ (dx : Addr) (rv : V) (fr : Int), H x = some (.ins (He.ga K "Kept") dx (kFs g rv fr)) ∧ GrowerAt K H g d top ∧ OptL K H top rv side
theorem KeptAt.mono {K : PySem.W.Frag} {H H' : Hp} {x g d : Addr} {top side : List Nat} (s : Same H H') (h : KeptAt K H x g d top side) : KeptAt K H' x g d top side :=
  let ⟨dx, rv, fr, h1, h2, h3⟩ := h; ⟨dx, rv, fr, s _ _ h1, h2.mono s, h3.f (same_f s)⟩
theorem GrowerAt.row {K : PySem.W.Frag} {H : Hp} {g d : Addr} {top : List Nat} (h : GrowerAt K H g d top) : Row top := let ⟨_, _, _, _, _, _, r⟩ := h; r
abbrev hidK (x g d : Addr) (H : Hp) : Hp := hide x (hid g d H)
theorem GrowerAt.ne_ins {K : PySem.W.Frag} {H : Hp} {g d x C dx : Addr} {top : List Nat} {fs : List (Str × V)} (h : GrowerAt K H g d top) (e : H x = some (.ins C dx fs)) (n : fs.lookup ("against" : Str) = none) : x ≠ g ∧ x ≠ d := by
  obtain ⟨dx', k, es, h1, h2, _⟩ := h
  constructor
  · rintro rfl
    rw [e] at h1
    injection h1 with h1
    injection h1 with _ _ h1
    subst h1
    cases n
  · rintro rfl
    rw [e] at h2
    cases h2
theorem GrowerAt.over {K : PySem.W.Frag} {H : Hp} {g d x C dx : Addr} {top : List Nat} {fs : List (Str × V)} {o : HO} (h : GrowerAt K H g d top) (e : H x = some (.ins C dx fs)) (n : fs.lookup ("against" : Str) = none) (n2 : ¬ FixO (.ins C dx fs)) : GrowerAt K (upd H x o) g d top := by
  have q := h.ne_ins e n
  obtain ⟨dx', k, es, h1, h2, h3, h4⟩ := h
  exact ⟨dx', k, es, (upd_ne q.1.symm).trans h1, (upd_ne q.2.symm).trans h2, h3.f ((sameF_hide e n2).trans (same_f same_over)), h4⟩
def sp_Kept_side (K : PySem.W.Frag) : Sp := fun vs H Q _ => ∃ (x g d : Addr) (top side : List Nat), vs = [.ref x] ∧ KeptAt K H x g d top side ∧ Q (.str (sOf side)) H
abbrev sc_Kept_side_N : List Str := ["self"]
theorem sc_Kept_side : FnScope sc_Kept_side_N ["self"] (defScope s_Kept_side) := ⟨rfl, rfl, rfl, by decide +kernel, rfl, by decide +kernel, by decide +kernel⟩
theorem fn_Kept_side {P : Program} {w : World} {K : PySem.W.Frag} {mg : Str → Option Value} {base : Heap} (T : Tx K mg) {f : Addr} {fd : FuncData} (F : FunD K "side" "Kept.side" (defArgs s_Kept_side) (defBody s_Kept_side) (defScope s_Kept_side) [] [] f fd) : Binds K fd ["self"] [] ∧ FnOk P w K mg base CX0 (2) f fd ["self"] (sp_Kept_side K) := by
  refine ⟨F.bindsN (fun _ _ _ _ _ _ us hl => match us, hl with | [_], _ => rfl), F.ok sc_Kept_side (fun vs H Q E h => ?_) (fun cdv A outer s H vs Q E hr h => ?_)⟩
  · (obtain ⟨x, g, d, top, side, rfl, ⟨dx, rv, fr, hx, hG, hO⟩, k⟩ := h)
    rfl
  · (obtain ⟨x, g, d, top, side, rfl, ⟨dx, rv, fr, hx, hG, hO⟩, k⟩ := h)
    refine ⟨_, PSs.nox (pss_cons (ps_if (pt_cmp (pc_isN (pe_fld (pv 0) rfl))) (pss_one (ps_ret pe_str)) pss_nil)
      (pss_one (ps_ret (pe_ms0 (pe_fld (pe_fld (pv 0) rfl) rfl) (ok_Piece_side T) (hr.mono (by decide)))))), ?_⟩
    refine ⟨_, rfl, x, _, dx, _, _, rfl, hx, T.cl_Kept, T.na_Kept_root, rfl, _, rfl, ?_⟩
    rcases hO with ⟨rfl, rfl⟩ | ⟨a, h, rfl, hL⟩
    · exact iteDT rfl (sOf_nil ▸ k)
    · refine iteDF (fun z => by cases z) ?_
      obtain ⟨dxa, p, n, u, l, t, oa, hP⟩ := hL.piece
      obtain ⟨C, dxp, lp, mp, ip, hC, hp, _⟩ := id hP
      exact ⟨_, rfl, x, _, dx, _, _, rfl, hx, T.cl_Kept, T.na_Kept_root, rfl, a, _, dxa, _, _, rfl, oa, T.cl_Limb, T.na_Limb_piece, rfl, p, C, dxp, _, rfl, hp, hC, rfl, p, side, top, t, rfl, hP, k⟩
theorem ok_Kept_side {P : Program} {w : World} {K : PySem.W.Frag} {mg : Str → Option Value} {base : Heap} (T : Tx K mg) : ∀ C, C = He.ga K "Kept" → Mt P w K mg base C "side" ["self"] (2) (sp_Kept_side K) := by
  intro C hC
  subst hC
  obtain ⟨fd, F⟩ := T.D_Kept_side
  obtain ⟨b, G⟩ := fn_Kept_side (P := P) (w := w) (base := base) T F
  exact ⟨_, fd, T.cl_Kept, T.m_Kept_side, b, G⟩
def sp_Kept_top (K : PySem.W.Frag) : Sp := fun vs H Q _ => ∃ (x g d : Addr) (top side : List Nat), vs = [.ref x] ∧ KeptAt K H x g d top side ∧ Q (.str (sOf top)) H
abbrev sc_Kept_top_N : List Str := ["self"]
theorem sc_Kept_top : FnScope sc_Kept_top_N ["self"] (defScope s_Kept_top) := ⟨rfl, rfl, rfl, by decide +kernel, rfl, by decide +kernel, by decide +kernel⟩
theorem fn_Kept_top {P : Program} {w : World} {K : PySem.W.Frag} {mg : Str → Option Value} {base : Heap} (T : Tx K mg) {f : Addr} {fd : FuncData} (F : FunD K "top" "Kept.top" (defArgs s_Kept_top) (defBody s_Kept_top) (defScope s_Kept_top) [] [] f fd) : Binds K fd ["self"] [] ∧ FnOk P w K mg base CX0 (1) f fd ["self"] (sp_Kept_top K) := by
  refine ⟨F.bindsN (fun _ _ _ _ _ _ us hl => match us, hl with | [_], _ => rfl), F.ok sc_Kept_top (fun vs H Q E h => ?_) (fun cdv A outer s H vs Q E hr h => ?_)⟩
  · (obtain ⟨x, g, d, top, side, rfl, ⟨dx, rv, fr, hx, hG, hO⟩, k⟩ := h)
    rfl
  · (obtain ⟨x, g, d, top, side, rfl, ⟨dx, rv, fr, hx, hG, hO⟩, k⟩ := h)
    refine ⟨_, PSs.nox (pss_one (ps_ret (pe_fld (pe_fld (pv 0) rfl) rfl))), ?_⟩
    obtain ⟨dxg, n, es, hg, _⟩ := id hG
    exact ⟨_, rfl, x, _, dx, _, _, rfl, hx, T.cl_Kept, T.na_Kept_grower, rfl, g, _, dxg, _, _, rfl, hg, T.cl_Grower, T.na_Grower_against, rfl, k⟩
theorem ok_Kept_top {P : Program} {w : World} {K : PySem.W.Frag} {mg : Str → Option Value} {base : Heap} (T : Tx K mg) : ∀ C, C = He.ga K "Kept" → Mt P w K mg base C "top" ["self"] (1) (sp_Kept_top K) := by
  intro C hC
  subst hC
  obtain ⟨fd, F⟩ := T.D_Kept_top
  obtain ⟨b, G⟩ := fn_Kept_top (P := P) (w := w) (base := base) T F
  exact ⟨_, fd, T.cl_Kept, T.m_Kept_top, b, G⟩
def sp_Kept_lines (K : PySem.W.Frag) : Sp := fun vs H Q _ => ∃ (x g d : Addr) (top side : List Nat), vs = [.ref x] ∧ KeptAt K H x g d top side ∧ Ret (fun v H' => ∃ r t, v = .ref r ∧ LAt H' r t ∧ PtM.PcOk side top t) H Q
abbrev sc_Kept_lines_N : List Str := ["self"]
theorem sc_Kept_lines : FnScope sc_Kept_lines_N ["self"] (defScope s_Kept_lines) := ⟨rfl, rfl, rfl, by decide +kernel, rfl, by decide +kernel, by decide +kernel⟩
theorem fn_Kept_lines {P : Program} {w : World} {K : PySem.W.Frag} {mg : Str → Option Value} {base : Heap} (T : Tx K mg) {f : Addr} {fd : FuncData} (F : FunD K "lines" "Kept.lines" (defArgs s_Kept_lines) (defBody s_Kept_lines) (defScope s_Kept_lines) [] [] f fd) : Binds K fd ["self"] [] ∧ FnOk P w K mg base CX0 (5) f fd ["self"] (sp_Kept_lines K) := by
  refine ⟨F.bindsN (fun _ _ _ _ _ _ us hl => match us, hl with | [_], _ => rfl), F.ok sc_Kept_lines (fun vs H Q E h => ?_) (fun cdv A outer s H vs Q E hr h => ?_)⟩
  · (obtain ⟨x, g, d, top, side, rfl, hK, k⟩ := h)
    rfl
  · (obtain ⟨x, g, d, top, side, rfl, hK, k⟩ := h)
    refine ⟨_, PSs.nox (pss_cons (ps_if (pt_cmp (pc_isN (pe_fld (pv 0) rfl))) (pss_one (ps_ret (pe_fn (ok_straight T) (hr.mono (by decide)) (pa_cons (pe_callB call_len_str (by rfl) T.z_len (by decide +kernel) (pa_cons (pe_ms0 (pv 0) (ok_Kept_top T) (hr.mono (by decide))) pa_nil)) pa_nil)))) pss_nil)
      (pss_one (ps_ret (pe_ms0 (pe_fld (pe_fld (pv 0) rfl) rfl) (ok_Piece_lines T) (hr.mono (by decide)))))), ?_⟩
    obtain ⟨dx, rv, fr, hx, hG, hO⟩ := id hK
    refine ⟨_, rfl, x, _, dx, _, _, rfl, hx, T.cl_Kept, T.na_Kept_root, rfl, _, rfl, ?_⟩
    have rt := hG.row
    rcases hO with ⟨rfl, rfl⟩ | ⟨a, h, rfl, hL⟩
    · refine iteDT rfl ⟨_, rfl, x, _, dx, _, rfl, hx, rfl, rfl, x, g, d, top, [], rfl, hK, _, rfl, zlen rt, top.length, by rw [sOf_len]; rfl, by have := rt.1; omega, ?_⟩
      rintro v H1 s1 ⟨r, rfl, hr, hL⟩
      exact k _ _ s1 ⟨r, _, rfl, hL, PtM.pc_nil_side top⟩
    · refine iteDF (fun z => by cases z) ?_
      obtain ⟨dxa, p, n, u, l, t, oa, hP⟩ := hL.piece
      obtain ⟨C, dxp, lp, mp, ip, hC, hp, _, ok, _⟩ := id hP
      exact ⟨_, rfl, x, _, dx, _, _, rfl, hx, T.cl_Kept, T.na_Kept_root, rfl, a, _, dxa, _, _, rfl, oa, T.cl_Limb, T.na_Limb_piece, rfl, p, C, dxp, _, rfl, hp, hC, rfl, p, side, top, t, rfl, hP, fun q hq => k _ _ (same_new hq) ⟨q, t, rfl, upd_same, ok⟩⟩
theorem ok_Kept_lines {P : Program} {w : World} {K : PySem.W.Frag} {mg : Str → Option Value} {base : Heap} (T : Tx K mg) : ∀ C, C = He.ga K "Kept" → Mt P w K mg base C "lines" ["self"] (5) (sp_Kept_lines K) := by
  intro C hC
  subst hC
  obtain ⟨fd, F⟩ := T.D_Kept_lines
  obtain ⟨b, G⟩ := fn_Kept_lines (P := P) (w := w) (base := base) T F
  exact ⟨_, fd, T.cl_Kept, T.m_Kept_lines, b, G⟩
def sp_Kept_pieces (K : PySem.W.Frag) : Sp := fun vs H Q _ => ∃ (x dx : Addr) (fs : List (Str × V)) (rv : V) (top side : List Nat), vs = [.ref x] ∧ H x = some (.ins (He.ga K "Kept") dx fs) ∧ fs.lookup ("root" : Str) = some rv ∧ OptL K H top rv side ∧
  Ret (fun v H' => ∃ r rs, v = .ref r ∧ H' r = some (.lst (RL rs)) ∧ rs.length ≤ 96 ∧ RowsAt H' rs) H Q
abbrev sc_Kept_pieces_N : List Str := ["self"]
theorem sc_Kept_pieces : FnScope sc_Kept_pieces_N ["self"] (defScope s_Kept_pieces) := ⟨rfl, rfl, rfl, by decide +kernel, rfl, by decide +kernel, by decide +kernel⟩
theorem fn_Kept_pieces {P : Program} {w : World} {K : PySem.W.Frag} {mg : Str → Option Value} {base : Heap} (T : Tx K mg) {f : Addr} {fd : FuncData} (F : FunD K "pieces" "Kept.pieces" (defArgs s_Kept_pieces) (defBody s_Kept_pieces) (defScope s_Kept_pieces) [] [] f fd) : Binds K fd ["self"] [] ∧ FnOk P w K mg base CX0 (51) f fd ["self"] (sp_Kept_pieces K) := by
  refine ⟨F.bindsN (fun _ _ _ _ _ _ us hl => match us, hl with | [_], _ => rfl), F.ok sc_Kept_pieces (fun vs H Q E h => ?_) (fun cdv A outer s H vs Q E hr h => ?_)⟩
  · (obtain ⟨x, dx, fs, rv, top, side, rfl, hx, hf, hO, k⟩ := h)
    rfl
  · (obtain ⟨x, dx, fs, rv, top, side, rfl, hx, hf, hO, k⟩ := h)
    refine ⟨_, PSs.nox (pss_cons (ps_if (pt_cmp (pc_isN (pe_fld (pv 0) rfl))) (pss_one (ps_ret (pe_lst pa_nil))) pss_nil)
      (pss_one (ps_ret (pe_ms (pe_fld (pv 0) rfl) (ok_Limb_rows_from T) (hr.mono (by decide)) (pa_cons pe_int pa_nil))))), ?_⟩
    refine ⟨_, rfl, x, _, dx, _, _, rfl, hx, T.cl_Kept, T.na_Kept_root, hf, _, rfl, ?_⟩
    rcases hO with ⟨rfl, rfl⟩ | ⟨a, h, rfl, hL⟩
    · refine iteDT rfl ⟨Nat.zero_le _, fun p hp => k _ _ (same_new hp) ⟨p, [], rfl, upd_same, Nat.zero_le _, fun i hi => absurd hi (Nat.not_lt_zero _)⟩⟩
    · refine iteDF (fun z => by cases z) ?_
      obtain ⟨dxa, p, n, u, l, t, oa, hP⟩ := hL.piece
      have r48 := hL.row.1.1
      refine ⟨_, rfl, x, _, dx, _, _, rfl, hx, T.cl_Kept, T.na_Kept_root, hf, a, _, dxa, _, rfl, oa, rfl, rfl, a, 0, top, side, h, rfl, hL, by omega, ?_⟩
      rintro v H1 s1 ⟨r, rs, rfl, hr, hl, hR⟩
      exact k _ _ s1 ⟨r, rs, rfl, hr, by omega, hR⟩
theorem ok_Kept_pieces {P : Program} {w : World} {K : PySem.W.Frag} {mg : Str → Option Value} {base : Heap} (T : Tx K mg) : ∀ C, C = He.ga K "Kept" → Mt P w K mg base C "pieces" ["self"] (51) (sp_Kept_pieces K) := by
  intro C hC
  subst hC
  obtain ⟨fd, F⟩ := T.D_Kept_pieces
  obtain ⟨b, G⟩ := fn_Kept_pieces (P := P) (w := w) (base := base) T F
  exact ⟨_, fd, T.cl_Kept, T.m_Kept_pieces, b, G⟩
def sp_need_sign_kept : Sp := fun vs H Q _ => ∃ c : Nat, vs = [.str (sOf [c])] ∧ Sgn c ∧ Ret (fun v _ => v = .non) H Q
abbrev sc_need_sign_kept_N : List Str := ["sign"]
theorem sc_need_sign_kept : FnScope sc_need_sign_kept_N ["sign"] (defScope s_need_sign_kept) := ⟨rfl, rfl, rfl, by decide +kernel, rfl, by decide +kernel, by decide +kernel⟩
theorem ok_need_sign_kept {P : Program} {w : World} {K : PySem.W.Frag} {mg : Str → Option Value} {base : Heap} (T : Tx K mg) : Fn P w K mg base "need_sign_kept" ["sign"] (2) sp_need_sign_kept := by
  obtain ⟨fd, F⟩ := T.D_need_sign_kept
  refine ⟨_, fd, T.g_need_sign_kept, F.kp, F.bindsN (fun _ _ _ _ _ _ us hl => match us, hl with | [_], _ => rfl), F.ok sc_need_sign_kept (fun vs H Q E h => ?_) (fun cdv A outer s H vs Q E hr h => ?_)⟩
  · (obtain ⟨c, rfl, hc, k⟩ := h)
    rfl
  · (obtain ⟨c, rfl, hc, k⟩ := h)
    refine ⟨_, PSs.nox (pss_one (ps_if (PW.pt (pw_or (pt_not (pt_val (pe_fn (ok_is_row T) (hr.mono (by decide)) (pa_cons (pv 0) pa_nil)))) (pw_or1 (pt_cmpR op_ne (pe_callB call_len_str (by rfl) T.z_len (by decide +kernel) (pa_cons (pv 0) pa_nil)) pe_int (nomark _))))) (pss_one ps_never) pss_nil)), ?_⟩
    refine ⟨_, rfl, [c], rfl, one_row hc, ?_⟩
    rintro v H1 s1 rfl
    exact ⟨_, rfl, iteF ⟨_, rfl, _, rfl, zlen (one_row hc), rfl, _, rfl, iteNF rfl (k _ _ s1 rfl)⟩⟩
def sp_need_place_kept : Sp := fun vs H Q _ => ∃ i m : Int, vs = [.int i, .int m] ∧ 0 ≤ i ∧ i ≤ m ∧ Q .non H
abbrev sc_need_place_kept_N : List Str := ["place", "last"]
theorem sc_need_place_kept : FnScope sc_need_place_kept_N ["place", "last"] (defScope s_need_place_kept) := ⟨rfl, rfl, rfl, by decide +kernel, rfl, by decide +kernel, by decide +kernel⟩
theorem ok_need_place_kept {P : Program} {w : World} {K : PySem.W.Frag} {mg : Str → Option Value} {base : Heap} (T : Tx K mg) : Fn P w K mg base "need_place_kept" ["place", "last"] (3) sp_need_place_kept := by
  obtain ⟨fd, F⟩ := T.D_need_place_kept
  refine ⟨_, fd, T.g_need_place_kept, F.kp, F.bindsN (fun _ _ _ _ _ _ us hl => match us, hl with | [_, _], _ => rfl), F.ok sc_need_place_kept (fun vs H Q E h => ?_) (fun cdv A outer s H vs Q E hr h => ?_)⟩
  · (obtain ⟨i, m, rfl, h0, h1, k⟩ := h)
    rfl
  · (obtain ⟨i, m, rfl, h0, h1, k⟩ := h)
    refine ⟨_, PSs.nox (pss_one (ps_if (pt_not (pt_val (pe_fn (ok_is_within T) (hr.mono (by decide)) (pa_cons (pv 0) (pa_cons pe_int (pa_cons (pv 1) pa_nil)))))) (pss_one ps_never) pss_nil)), ?_⟩
    refine ⟨_, rfl, _, rfl, i, 0, m, rfl, ?_⟩
    have e1 : (decide ((0 : Int) ≤ i) && decide (i ≤ m)) = true := by rw [decide_eq_true h0, decide_eq_true h1]; rfl
    rw [e1]
    exact ⟨_, rfl, iteF k⟩
end Pt
end
section
set_option maxRecDepth 100000
set_option maxHeartbeats 4000000
namespace Pt
open PySem PySem.Spec PyProof.Rows L2
theorem iteC {c A B : Prop} [Decidable c] (a : c → A) (b : ¬ c → B) : if c then A else B := by
  split
  · exact a ‹_›
  · exact b ‹_›
theorem at0 {v : V} {ys : List V} : atI (v :: ys) 0 = some v := atI_nat (j := 0) rfl
theorem at1 {v1 v : V} {ys : List V} : atI (v1 :: v :: ys) 1 = some v := atI_nat (j := 1) rfl
def sp_Kept_note (K : PySem.W.Frag) : Sp := fun vs H Q _ => ∃ (x g d dx : Addr) (fs : List (Str × V)) (rv : V) (top side : List Nat) (b : Int), vs = [.ref x, .int b] ∧ H x = some (.ins (He.ga K "Kept") dx fs) ∧ fs.lookup ("root" : Str) = some rv ∧ fs.lookup ("pieces" : Str) = none ∧ fs.length < 1000 ∧ OptL K H top rv side ∧
  ∀ v H' (n : Nat), Same (hide x H) H' → H' x = some (.ins (He.ga K "Kept") dx (putF "fresh" (.int n) fs)) → Q v H'
abbrev sc_Kept_note_N : List Str := ["self", "before", "row"]
theorem sc_Kept_note : FnScope sc_Kept_note_N ["self", "before"] (defScope s_Kept_note) := ⟨rfl, rfl, rfl, by decide +kernel, rfl, by decide +kernel, by decide +kernel⟩
theorem fn_Kept_note {P : Program} {w : World} {K : PySem.W.Frag} {mg : Str → Option Value} {base : Heap} (T : Tx K mg) {f : Addr} {fd : FuncData} (F : FunD K "note" "Kept.note" (defArgs s_Kept_note) (defBody s_Kept_note) (defScope s_Kept_note) [] [] f fd) : Binds K fd ["self", "before"] [] ∧ FnOk P w K mg base CX0 (52) f fd ["self", "before"] (sp_Kept_note K) := by
  refine ⟨F.bindsN (fun _ _ _ _ _ _ us hl => match us, hl with | [_, _], _ => rfl), F.ok sc_Kept_note (fun vs H Q E h => ?_) (fun cdv A outer s H vs Q E hr h => ?_)⟩
  · (obtain ⟨x, g, d, dx, fs, rv, top, side, b, rfl, hx, hf, hf2, hn, hO, k⟩ := h)
    rfl
  · (obtain ⟨x, g, d, dx, fs, rv, top, side, b, rfl, hx, hf, hf2, hn, hO, k⟩ := h)
    refine ⟨_, PSs.nox (pss_one (ps_fld (pv 0) (pe_callB call_len_seq (by rfl) T.z_len (by decide +kernel) (pa_cons (pe_lc (own := [("row", 2)]) rfl sc_Kept_note.nd (pi_list (pe_ms0 (pv 0) (ok_Kept_pieces T) (hr.mono (by decide)))) (blkOk_by (N := sc_Kept_note_N) (sc := defScope s_Kept_note) (by decide +kernel)) (fun _ _ _ _ _ => (pg_name (i := 2) sc_Kept_note.nd rfl (Or.inl rfl))) (fun _ _ _ _ _ => (pts_one (pt_cmpR op_gt (pe_ix (ix_tupK (K := K) rfl) (pv 2) pe_int (fun _ _ => rfl)) (pv 1) (nomark _)))) (fun _ _ _ _ _ => (pv 2))) pa_nil)) rfl)), ?_⟩
    refine ⟨_, rfl, x, _, dx, _, rfl, hx, rfl, hf2, x, dx, _, rv, top, side, rfl, hx, hf, hO, ?_⟩
    rintro v1 H1 s1 ⟨r, rs, rfl, hr, hl, hR⟩
    refine ⟨r, rfl, ⟨_, SqL.of hr⟩, fun D hD => lc_it (walk_list (xs := RL rs)) (fun i H' => Same H1 H' ∧ ∃ acc, H' D = some (.lst acc) ∧ acc.length ≤ i) ⟨same_new hD, [], upd_same, Nat.le_refl _⟩ (fun i H' _ p => SqL.of (p.1 _ _ hr)) ?_ ?_⟩
    · rintro i y H2 H3 hi ⟨s, acc, ha, hal⟩ ⟨rfl, hy⟩
      obtain ⟨hb, rfl⟩ := RL_at hy
      obtain ⟨z, ys, hz⟩ := hR i hb
      refine ⟨rfl, _, rfl, _, _, 0, _, rfl, rfl, SqT.of (s _ _ hz), at0, _, rfl, _, _, rfl, rfl, _, rfl, ?_⟩
      refine iteC (fun _ => ?_) (fun _ => ?_)
      · exact ⟨_, rfl, acc, ha, bigS _ (by omega), same_upd s hD, _, upd_same, by simp; omega⟩
      · exact ⟨s, acc, ha, by omega⟩
    · rintro H2 ⟨s, acc, ha, hal⟩
      have s2 := s1.trans s
      refine ⟨D, _, rfl, .inl (SqL.of ha), _, rfl, x, _, dx, _, rfl, s2 _ _ hx, T.cl_Kept, T.na_Kept_fresh, hn, ?_⟩
      exact k _ _ acc.length (same_upd (unhide.trans s2) (by unfold hide; rw [if_pos rfl])) upd_same
theorem ok_Kept_note {P : Program} {w : World} {K : PySem.W.Frag} {mg : Str → Option Value} {base : Heap} (T : Tx K mg) : ∀ C, C = He.ga K "Kept" → Mt P w K mg base C "note" ["self", "before"] (52) (sp_Kept_note K) := by
  intro C hC
  subst hC
  obtain ⟨fd, F⟩ := T.D_Kept_note
  obtain ⟨b, G⟩ := fn_Kept_note (P := P) (w := w) (base := base) T F
  exact ⟨_, fd, T.cl_Kept, T.m_Kept_note, b, G⟩
theorem OptL.cast {K : PySem.W.Frag} {H : Hp} {top s s' : List Nat} {v : V} (q : OptL K H top v s) (e : s = s') : OptL K H top v s' := e ▸ q
def sp_Kept_init (K : PySem.W.Frag) : Sp := fun vs H Q _ => ∃ (x dx : Addr) (side top : List Nat), vs = [.ref x, .str (sOf side), .str (sOf top)] ∧ H x = some (.ins (He.ga K "Kept") dx []) ∧ Row side ∧ Row top ∧ ∀ H' g d, Same (hide x H) H' → H g = none → H d = none → KeptAt K H' x g d top side → Q .non H'
abbrev sc_Kept_init_N : List Str := ["self", "side", "top"]
theorem sc_Kept_init : FnScope sc_Kept_init_N ["self", "side", "top"] (defScope s_Kept_init) := ⟨rfl, rfl, rfl, by decide +kernel, rfl, by decide +kernel, by decide +kernel⟩
theorem fn_Kept_init {P : Program} {w : World} {K : PySem.W.Frag} {mg : Str → Option Value} {base : Heap} (T : Tx K mg) {f : Addr} {fd : FuncData} (F : FunD K "__init__" "Kept.__init__" (defArgs s_Kept_init) (defBody s_Kept_init) (defScope s_Kept_init) [] [] f fd) : Binds K fd ["self", "side", "top"] [] ∧ FnOk P w K mg base CX0 (110) f fd ["self", "side", "top"] (sp_Kept_init K) := by
  refine ⟨F.bindsN (fun _ _ _ _ _ _ us hl => match us, hl with | [_, _, _], _ => rfl), F.ok sc_Kept_init (fun vs H Q E h => ?_) (fun cdv A outer s H vs Q E hr h => ?_)⟩
  · (obtain ⟨x, dx, side, top, rfl, hx, rs, rt, k⟩ := h)
    rfl
  · (obtain ⟨x, dx, side, top, rfl, hx, rs, rt, k⟩ := h)
    refine ⟨_, PSs.nox (pss_cons (ps_expr (pe_fn (ok_need_rows T) (hr.mono (by decide)) (pa_cons (pv 1) (pa_cons (pv 2) pa_nil))))
      (pss_cons (ps_fld (pv 0) (pe_nw (new_Grower T) (hr.mono (by decide)) (pa_cons (pv 2) (pa_cons pe_int pa_nil))) rfl)
      (pss_cons (ps_fld (pv 0) pe_non rfl)
      (pss_cons (ps_if (pt_cmpR op_ne (pv 1) pe_str (nomark _)) (pss_one (ps_fld (pv 0) (pe_ms (pe_fld (pv 0) rfl) (ok_Grower_grown T) (hr.mono (by decide)) (pa_cons (pv 1) pa_nil)) rfl)) pss_nil)
      (pss_one (ps_fld (pv 0) (pe_callB call_len_seq (by rfl) T.z_len (by decide +kernel) (pa_cons (pe_ms0 (pv 0) (ok_Kept_pieces T) (hr.mono (by decide))) pa_nil)) rfl)))))), ?_⟩
    have hx0 : hide x H x = none := by unfold hide; rw [if_pos rfl]
    have cl := T.cl_Kept
    refine ⟨_, rfl, _, rfl, side, top, rfl, rs, rt, fun v H1 s1 e => ?_⟩
    refine ⟨_, rfl, fun g dg hg hdg hne => ?_⟩
    have sm := same_make hg hdg (o1 := .own g) (o2 := .ins (He.ga K "Grower") dg [])
    refine ⟨g, dg, top, 0, rfl, upd_same, rt, fun H2 d s2 hd0 hG => ⟨rfl, ?_⟩⟩
    have hgx : g ≠ x := fun z => by subst z; rw [s1 _ _ hx] at hg; cases hg
    have hg0 : H g = none := s1.free hg
    have s3 : Same H H2 := s1.trans (sm.trans s2)
    have hdg0 : d ≠ g := fun z => by subst z; rw [upd_same] at hd0; cases hd0
    have hd1 : H1 d = none := by
      rw [upd_ne hdg0] at hd0
      by_cases e2 : d = dg
      · rw [e2]; exact hdg
      · rwa [upd_ne e2] at hd0
    have hd00 : H d = none := s1.free hd1
    have hx2 := s3 _ _ hx
    refine ⟨_, rfl, x, _, dx, _, rfl, hx2, cl, T.na_Kept_grower, by simp, ?_⟩
    rw [putF_nil]
    have G2 := hG.over (o := .ins (He.ga K "Kept") dx [("grower", .ref g)]) hx2 rfl Bool.false_ne_true
    have s4 := same_upd (unhide.trans s3) (o := .ins (He.ga K "Kept") dx [("grower", .ref g)]) hx0
    refine ⟨_, rfl, x, _, dx, _, rfl, upd_same, cl, T.na_Kept_root, by simp, ?_⟩
    rw [putF_ne (by decide), putF_nil]
    have G3 := G2.over (o := .ins (He.ga K "Kept") dx [("grower", .ref g), ("root", .non)]) upd_same rfl Bool.false_ne_true
    have s5 := same_upd s4 (o := .ins (He.ga K "Kept") dx [("grower", .ref g), ("root", .non)]) hx0
    dsimp only
    refine seq_mid (fun σ' H' => ∃ rv, σ' = [some (.ref x), some (.str (sOf side)), some (.str (sOf top))] ∧ H' x = some (.ins (He.ga K "Kept") dx [("grower", .ref g), ("root", rv)]) ∧ Same (hide x H) H' ∧ GrowerAt K H' g d top ∧ OptL K H' top rv side) (fun N hN => ?_) ?_
    · refine ⟨_, rfl, rfl, _, rfl, ?_⟩
      by_cases e : side = []
      · subst e
        exact iteNF (emp_eq.mpr rfl) (hN _ _ ⟨.non, rfl, upd_same, s5, G3, .inl ⟨rfl, rfl⟩⟩)
      · refine iteNT (fun z => e (emp_eq.mp z)) ?_
        obtain ⟨dxg, n, es, hg3, hd3, _⟩ := id G3
        refine ⟨_, rfl, x, _, dx, _, _, rfl, upd_same, cl, T.na_Kept_grower, rfl, g, _, dxg, _, rfl, hg3, rfl, rfl, _, rfl, g, d, top, side, rfl, G3, rs, ?_, by have := rs.1; omega, ?_⟩
        · cases side with
          | nil => exact absurd rfl e
          | cons _ _ => simp
        rintro v6 H6 m6 G6 ⟨r, h, rfl, hL⟩
        have nx := G3.ne_ins (x := x) upd_same rfl
        have hx6 := m6 x _ (hide_of (hide_of (upd_same (o := .ins (He.ga K "Kept") dx [("grower", .ref g), ("root", .non)])) nx.1) nx.2)
        refine ⟨_, rfl, x, _, dx, _, rfl, hx6, cl, T.na_Kept_root, by simp, ?_⟩
        rw [putF_ne (by decide), putF_eq]
        have G7 := G6.over (o := .ins (He.ga K "Kept") dx [("grower", .ref g), ("root", .ref r)]) hx6 rfl Bool.false_ne_true
        have f7 : SameF H6 (upd H6 x (.ins (He.ga K "Kept") dx [("grower", .ref g), ("root", .ref r)])) := (sameF_hide hx6 Bool.false_ne_true).trans (same_f same_over)
        refine hN _ _ ⟨.ref r, rfl, upd_same, same_upd (fun y o ey => ?_) hx0, G7, .inr ⟨r, h, rfl, hL.f f7⟩⟩
        refine m6 y o (hide_of (hide_of (s5 y o ey) fun z => ?_) fun z => ?_)
        · subst z
          rw [of_hide ey |>.1] at hg0
          cases hg0
        · subst z
          rw [of_hide ey |>.1] at hd00
          cases hd00
    · rintro σ1 H6 ⟨rv, rfl, hx6, s6, G6, O6⟩
      refine ⟨_, rfl, x, _, dx, _, rfl, hx6, rfl, rfl, x, dx, _, rv, top, side, rfl, hx6, rfl, O6, ?_⟩
      rintro v7 H7 s7 ⟨r, rs', rfl, hr, hl, hR⟩
      have hx7 := s7 _ _ hx6
      refine ⟨r, _, rfl, .inl (SqL.of hr), _, rfl, x, _, dx, _, rfl, hx7, cl, T.na_Kept_fresh, by simp, ?_⟩
      rw [putF_ne (by decide), putF_ne (by decide), putF_nil]
      have G7 := (G6.mono s7).over (o := .ins (He.ga K "Kept") dx (kFs g rv ((RL rs').length : Nat))) hx7 rfl Bool.false_ne_true
      have f7 : SameF H7 (upd H7 x (.ins (He.ga K "Kept") dx (kFs g rv ((RL rs').length : Nat)))) := (sameF_hide hx7 Bool.false_ne_true).trans (same_f same_over)
      exact k _ g d (same_upd (s6.trans s7) hx0) hg0 hd00 ⟨dx, rv, _, upd_same, G7, O6.f ((same_f s7).trans f7)⟩
theorem new_Kept {P : Program} {w : World} {K : PySem.W.Frag} {mg : Str → Option Value} {base : Heap} (T : Tx K mg) : Nw P w K mg base "Kept" (He.ga K "Kept") ["self", "side", "top"] (110) (sp_Kept_init K) := by
  obtain ⟨fd, F⟩ := T.D_Kept_init
  obtain ⟨b, G⟩ := fn_Kept_init (P := P) (w := w) (base := base) T F
  exact ⟨_, fd, T.g_Kept, T.mk_Kept, b, G⟩
end Pt
end
section
set_option maxRecDepth 100000
set_option maxHeartbeats 4000000
namespace Pt
open PySem PySem.Spec PyProof.Rows L2
theorem GrowerAt.hideI {K : PySem.W.Frag} {H : Hp} {g d x C dx : Addr} {top : List Nat} {fs : List (Str × V)} (h : GrowerAt K H g d top) (e : H x = some (.ins C dx fs)) (n : fs.lookup ("against" : Str) = none) (n2 : ¬ FixO (.ins C dx fs)) : GrowerAt K (hide x H) g d top := by
  have q := h.ne_ins e n
  obtain ⟨dx', k, es, h1, h2, h3, h4⟩ := h
  exact ⟨dx', k, es, hide_of h1 q.1.symm, hide_of h2 q.2.symm, h3.f (sameF_hide e n2), h4⟩
section
variable {K : PySem.W.Frag} {H H1 H2 : Hp} {x g d dx : Addr} {top side side' : List Nat} {rv v' : V} {fr : Int} {n : Nat}
theorem kept_set (hx : H x = some (.ins (He.ga K "Kept") dx (kFs g rv fr))) (G : GrowerAt K H g d top) (O : OptL K H top v' side') : KeptAt K (upd H x (.ins (He.ga K "Kept") dx (kFs g v' fr))) x g d top side' :=
  ⟨dx, v', fr, upd_same, G.over hx rfl Bool.false_ne_true, O.f ((sameF_hide hx Bool.false_ne_true).trans (same_f same_over))⟩
theorem kept_note (hx : H x = some (.ins (He.ga K "Kept") dx (kFs g rv fr))) (G : GrowerAt K H g d top) (O : OptL K H top rv side) (s : Same (hide x H) H1) (hx1 : H1 x = some (.ins (He.ga K "Kept") dx (putF "fresh" (.int n) (kFs g rv fr)))) : KeptAt K H1 x g d top side := by
  rw [putF_ne (by decide), putF_ne (by decide), putF_eq] at hx1
  exact ⟨dx, rv, _, hx1, (G.hideI hx rfl Bool.false_ne_true).mono s, O.f ((sameF_hide hx Bool.false_ne_true).trans (same_f s))⟩
theorem kept_x (hx : H x = some (.ins (He.ga K "Kept") dx (kFs g rv fr))) (G : GrowerAt K H g d top) (m : Same (hid g d H) H1) : H1 x = some (.ins (He.ga K "Kept") dx (kFs g rv fr)) := by
  have q := G.ne_ins hx rfl
  exact m _ _ (hide_of (hide_of hx q.1) q.2)
theorem hidK_of (a : Same (hid g d H) H1) : Same (hidK x g d H) H1 := fun y o e => a y o (of_hide e).1
theorem hidK_updx {o : HO} (a : Same (hidK x g d H) H1) : Same (hidK x g d H) (upd H1 x o) := fun y u e => by
  rw [upd_ne (of_hide e).2]
  exact a y u e
theorem hidK_hide (a : Same (hidK x g d H) H1) (b : Same (hide x H1) H2) : Same (hidK x g d H) H2 := fun y o e => b y o (hide_of (a y o e) (of_hide e).2)
end
abbrev RetK (K : PySem.W.Frag) (x g d : Addr) (top side : List Nat) (H : Hp) (Q : VK) : Prop := ∀ v H' g' d', Same (hidK x g d H) H' → (g' = g ∨ H g' = none) → (d' = d ∨ H d' = none) → KeptAt K H' x g' d' top side → Q v H'
abbrev RetK0 (K : PySem.W.Frag) (x g d : Addr) (top side : List Nat) (H : Hp) (Q : VK) : Prop := ∀ v H', Same (hidK x g d H) H' → KeptAt K H' x g d top side → Q v H'
def sp_Kept_put (K : PySem.W.Frag) : Sp := fun vs H Q _ => ∃ (x g d : Addr) (top side : List Nat) (pl c : Nat), vs = [.ref x, nV pl, .str (sOf [c])] ∧ KeptAt K H x g d top side ∧ pl ≤ side.length ∧ side.length < 48 ∧ Sgn c ∧ RetK0 K x g d top (side.take pl ++ [c] ++ side.drop pl) H Q
abbrev sc_Kept_put_N : List Str := ["self", "place", "sign", "many", "before"]
theorem sc_Kept_put : FnScope sc_Kept_put_N ["self", "place", "sign"] (defScope s_Kept_put) := ⟨rfl, rfl, rfl, by decide +kernel, rfl, by decide +kernel, by decide +kernel⟩
theorem fn_Kept_put {P : Program} {w : World} {K : PySem.W.Frag} {mg : Str → Option Value} {base : Heap} (T : Tx K mg) {f : Addr} {fd : FuncData} (F : FunD K "put" "Kept.put" (defArgs s_Kept_put) (defBody s_Kept_put) (defScope s_Kept_put) [] [] f fd) : Binds K fd ["self", "place", "sign"] [] ∧ FnOk P w K mg base CX0 (110) f fd ["self", "place", "sign"] (sp_Kept_put K) := by
  refine ⟨F.bindsN (fun _ _ _ _ _ _ us hl => match us, hl with | [_, _, _], _ => rfl), F.ok sc_Kept_put (fun vs H Q E h => ?_) (fun cdv A outer s H vs Q E hr h => ?_)⟩
  · (obtain ⟨x, g, d, top, side, pl, c, rfl, hK, hpl, hz, hc, k⟩ := h)
    rfl
  · (obtain ⟨x, g, d, top, side, pl, c, rfl, hK, hpl, hz, hc, k⟩ := h)
    refine ⟨_, PSs.nox (pss_cons (ps_set (i := 3) sc_Kept_put.nd rfl (Or.inl rfl) (pe_callB call_len_str (by rfl) T.z_len (by decide +kernel) (pa_cons (pe_ms0 (pv 0) (ok_Kept_side T) (hr.mono (by decide))) pa_nil)))
      (pss_cons (ps_expr (pe_fn (ok_need_place_kept T) (hr.mono (by decide)) (pa_cons (pv 1) (pa_cons (pv 3) pa_nil))))
      (pss_cons (ps_expr (pe_fn (ok_need_sign_kept T) (hr.mono (by decide)) (pa_cons (pv 2) pa_nil)))
      (pss_cons (ps_if (pt_cmpR op_eq (pv 3) (pe_glob (v := .int 48) rfl (Classical.choose_spec T.c_MOST_SIGNS) ⟨_, rfl⟩) (nomark _)) (pss_one ps_never) pss_nil)
      (pss_cons (ps_set (i := 4) sc_Kept_put.nd rfl (Or.inl rfl) (pe_fld (pe_fld (pv 0) rfl) rfl))
      (pss_cons (ps_if (pt_cmp (pc_isN (pe_fld (pv 0) rfl))) (pss_one (ps_fld (pv 0) (pe_ms (pe_fld (pv 0) rfl) (ok_Grower_leaf T) (hr.mono (by decide)) (pa_cons (pv 2) pa_nil)) rfl)) (pss_one (ps_fld (pv 0) (pe_ms (pe_fld (pv 0) rfl) (ok_Grower_put T) (hr.mono (by decide)) (pa_cons (pe_fld (pv 0) rfl) (pa_cons (pv 1) (pa_cons (pv 2) pa_nil)))) rfl)))
      (pss_one (ps_expr (pe_ms (pv 0) (ok_Kept_note T) (hr.mono (by decide)) (pa_cons (pv 4) pa_nil)))))))))), ?_⟩
    have cl := T.cl_Kept
    obtain ⟨dx, rv, fr, hx, hG, hO⟩ := id hK
    have rs := hO.row
    refine ⟨_, rfl, x, _, dx, _, rfl, hx, rfl, rfl, x, g, d, top, side, rfl, hK, _, rfl, zlen rs, ?_⟩
    rw [sOf_len]
    refine ⟨_, rfl, _, rfl, pl, side.length, rfl, by omega, by omega, ?_⟩
    refine ⟨_, rfl, c, rfl, hc, fun v H1 s1 e => ?_⟩
    have hK := hK.mono s1
    have hG := hG.mono s1
    have hO := hO.f (same_f s1)
    have hx := s1 _ _ hx
    obtain ⟨dxg, n, es, hg, _⟩ := id hG
    refine ⟨_, rfl, rfl, _, rfl, iteDF (fun z => by have := V.int.inj z; omega) ?_⟩
    refine ⟨_, rfl, x, _, dx, _, _, rfl, hx, cl, T.na_Kept_grower, rfl, g, _, dxg, _, _, rfl, hg, T.cl_Grower, T.na_Grower_given, rfl, ?_⟩
    dsimp only
    refine seq_mid (fun σ' H' => σ' = [some (.ref x), some (nV pl), some (.str (sOf [c])), some (nV side.length), some (.int n)] ∧ Same (hidK x g d H1) H' ∧ KeptAt K H' x g d top (side.take pl ++ [c] ++ side.drop pl)) (fun N hN => ?_) ?_
    · refine ⟨_, rfl, x, _, dx, _, _, rfl, hx, cl, T.na_Kept_root, rfl, _, rfl, ?_⟩
      rcases hO with ⟨rfl, rfl⟩ | ⟨a, h, rfl, hL⟩
      · refine iteDT rfl ?_
        refine ⟨_, rfl, x, _, dx, _, _, rfl, hx, cl, T.na_Kept_grower, rfl, g, _, dxg, _, rfl, hg, rfl, rfl, _, rfl, g, d, top, c, rfl, hG, hc, ?_⟩
        rintro v2 H2 m2 G2 ⟨r, rfl, q⟩
        have hx2 := kept_x hx hG m2
        refine ⟨_, rfl, x, _, dx, _, rfl, hx2, cl, T.na_Kept_root, by simp, ?_⟩
        rw [putF_ne (by decide), putF_eq]
        exact hN _ _ ⟨rfl, hidK_updx (hidK_of m2), kept_set hx2 G2 (.inr ⟨r, _, rfl, LimbAt.cast q (by simp)⟩)⟩
      · refine iteDF (fun z => by cases z) ?_
        refine ⟨_, rfl, x, _, dx, _, _, rfl, hx, cl, T.na_Kept_grower, rfl, g, _, dxg, _, rfl, hg, rfl, rfl, _, rfl, x, _, dx, _, _, rfl, hx, cl, T.na_Kept_root, rfl, _, rfl, _, rfl, g, d, a, top, side, h, pl, c, rfl, hG, hL, hpl, by omega, hc, by omega, ?_⟩
        rintro v2 H2 m2 G2 ⟨r, h', rfl, q⟩
        have hx2 := kept_x hx hG m2
        refine ⟨_, rfl, x, _, dx, _, rfl, hx2, cl, T.na_Kept_root, by simp, ?_⟩
        rw [putF_ne (by decide), putF_eq]
        exact hN _ _ ⟨rfl, hidK_updx (hidK_of m2), kept_set hx2 G2 (.inr ⟨r, _, rfl, q⟩)⟩
    · rintro σ2 H2 ⟨rfl, m2, ⟨dx2, rv2, fr2, hx2, G2, O2⟩⟩
      refine ⟨_, rfl, x, _, dx2, _, rfl, hx2, rfl, rfl, _, rfl, x, g, d, dx2, _, rv2, top, _, n, rfl, hx2, rfl, rfl, by simp, O2, ?_⟩
      intro v3 H3 n3 s3 hx3
      refine k _ _ ?_ (kept_note hx2 G2 O2 s3 hx3)
      exact fun y o e => hidK_hide m2 s3 y o (hide_same (hide_same (hide_same s1)) y o e)
theorem ok_Kept_put {P : Program} {w : World} {K : PySem.W.Frag} {mg : Str → Option Value} {base : Heap} (T : Tx K mg) : ∀ C, C = He.ga K "Kept" → Mt P w K mg base C "put" ["self", "place", "sign"] (110) (sp_Kept_put K) := by
  intro C hC
  subst hC
  obtain ⟨fd, F⟩ := T.D_Kept_put
  obtain ⟨b, G⟩ := fn_Kept_put (P := P) (w := w) (base := base) T F
  exact ⟨_, fd, T.cl_Kept, T.m_Kept_put, b, G⟩
theorem at_str {l : List Nat} {i : Nat} (h : i < l.length) : atI (sOf l).cps.toList (i : Int) = some (l.getD i 0) := by
  rw [sOf_cps]
  exact atI_nat (by simp [List.getD, h])
def sp_Kept_drop (K : PySem.W.Frag) : Sp := fun vs H Q _ => ∃ (x g d : Addr) (top side : List Nat) (pl : Nat), vs = [.ref x, nV pl] ∧ KeptAt K H x g d top side ∧ pl < side.length ∧ RetK0 K x g d top (side.take pl ++ side.drop (pl + 1)) H Q
abbrev sc_Kept_drop_N : List Str := ["self", "place", "side", "before"]
theorem sc_Kept_drop : FnScope sc_Kept_drop_N ["self", "place"] (defScope s_Kept_drop) := ⟨rfl, rfl, rfl, by decide +kernel, rfl, by decide +kernel, by decide +kernel⟩
theorem fn_Kept_drop {P : Program} {w : World} {K : PySem.W.Frag} {mg : Str → Option Value} {base : Heap} (T : Tx K mg) {f : Addr} {fd : FuncData} (F : FunD K "drop" "Kept.drop" (defArgs s_Kept_drop) (defBody s_Kept_drop) (defScope s_Kept_drop) [] [] f fd) : Binds K fd ["self", "place"] [] ∧ FnOk P w K mg base CX0 (110) f fd ["self", "place"] (sp_Kept_drop K) := by
  refine ⟨F.bindsN (fun _ _ _ _ _ _ us hl => match us, hl with | [_, _], _ => rfl), F.ok sc_Kept_drop (fun vs H Q E h => ?_) (fun cdv A outer s H vs Q E hr h => ?_)⟩
  · (obtain ⟨x, g, d, top, side, pl, rfl, hK, hpl, k⟩ := h)
    rfl
  · (obtain ⟨x, g, d, top, side, pl, rfl, hK, hpl, k⟩ := h)
    refine ⟨_, PSs.nox (pss_cons (ps_set (i := 2) sc_Kept_drop.nd rfl (Or.inl rfl) (pe_ms0 (pv 0) (ok_Kept_side T) (hr.mono (by decide))))
      (pss_cons (ps_expr (pe_fn (ok_need_place_kept T) (hr.mono (by decide)) (pa_cons (pv 1) (pa_cons (pe_op op_sub (pe_callB call_len_str (by rfl) T.z_len (by decide +kernel) (pa_cons (pv 2) pa_nil)) pe_int) pa_nil))))
      (pss_cons (ps_set (i := 3) sc_Kept_drop.nd rfl (Or.inl rfl) (pe_fld (pe_fld (pv 0) rfl) rfl))
      (pss_cons (ps_fld (pv 0) (pe_ms (pe_fld (pv 0) rfl) (ok_Grower_drop T) (hr.mono (by decide)) (pa_cons (pe_fld (pv 0) rfl) (pa_cons (pv 1) pa_nil))) rfl)
      (pss_cons (ps_expr (pe_ms (pv 0) (ok_Kept_note T) (hr.mono (by decide)) (pa_cons (pv 3) pa_nil)))
      (pss_one (ps_ret (pe_ix ix_str (pv 2) (pv 1) (fun _ _ => rfl))))))))), ?_⟩
    have cl := T.cl_Kept
    obtain ⟨dx, rv, fr, hx, hG, hO⟩ := id hK
    have rs := hO.row
    have r48 := rs.1
    obtain ⟨dxg, n, es, hg, _⟩ := id hG
    obtain ⟨a, h, rfl, hL⟩ := hO.resolve_left (fun z => by rw [z.1] at hpl; exact absurd hpl (Nat.not_lt_zero _))
    refine ⟨_, rfl, x, _, dx, _, rfl, hx, rfl, rfl, x, g, d, top, side, rfl, hK, ?_⟩
    refine ⟨_, rfl, _, rfl, _, rfl, zlen rs, _, _, rfl, rfl, ?_⟩
    rw [sOf_len]
    refine ⟨pl, _, rfl, by omega, by omega, ?_⟩
    refine ⟨_, rfl, x, _, dx, _, _, rfl, hx, cl, T.na_Kept_grower, rfl, g, _, dxg, _, _, rfl, hg, T.cl_Grower, T.na_Grower_given, rfl, ?_⟩
    refine ⟨_, rfl, x, _, dx, _, _, rfl, hx, cl, T.na_Kept_grower, rfl, g, _, dxg, _, rfl, hg, rfl, rfl, _, rfl, x, _, dx, _, _, rfl, hx, cl, T.na_Kept_root, rfl, _, rfl, g, d, a, top, side, h, pl, rfl, hG, hL, hpl, by omega, ?_⟩
    intro v2 H2 m2 G2 q
    have hx2 := kept_x hx hG m2
    refine ⟨_, rfl, x, _, dx, _, rfl, hx2, cl, T.na_Kept_root, by simp, ?_⟩
    rw [putF_ne (by decide), putF_eq]
    obtain ⟨dx3, rv3, fr3, hx3, G3, O3⟩ := kept_set hx2 G2 q
    have m3 : Same (hidK x g d H) _ := hidK_updx (o := .ins (He.ga K "Kept") dx (kFs g v2 fr)) (hidK_of m2)
    refine ⟨_, rfl, x, _, dx3, _, rfl, hx3, rfl, rfl, _, rfl, x, g, d, dx3, _, rv3, top, _, n, rfl, hx3, rfl, rfl, by simp, O3, ?_⟩
    intro v4 H4 n4 s4 hx4
    refine ⟨_, rfl, _, rfl, sOf side, pl, _, rfl, rfl, zlen rs, at_str hpl, ?_⟩
    exact k _ _ (hidK_hide m3 s4) (kept_note hx3 G3 O3 s4 hx4)
theorem ok_Kept_drop {P : Program} {w : World} {K : PySem.W.Frag} {mg : Str → Option Value} {base : Heap} (T : Tx K mg) : ∀ C, C = He.ga K "Kept" → Mt P w K mg base C "drop" ["self", "place"] (110) (sp_Kept_drop K) := by
  intro C hC
  subst hC
  obtain ⟨fd, F⟩ := T.D_Kept_drop
  obtain ⟨b, G⟩ := fn_Kept_drop (P := P) (w := w) (base := base) T F
  exact ⟨_, fd, T.cl_Kept, T.m_Kept_drop, b, G⟩
def sp_Kept_change (K : PySem.W.Frag) : Sp := fun vs H Q _ => ∃ (x g d : Addr) (top side : List Nat) (pl c : Nat), vs = [.ref x, nV pl, .str (sOf [c])] ∧ KeptAt K H x g d top side ∧ pl < side.length ∧ Sgn c ∧ RetK0 K x g d top (side.take pl ++ [c] ++ side.drop (pl + 1)) H Q
abbrev sc_Kept_change_N : List Str := ["self", "place", "sign", "side", "before"]
theorem sc_Kept_change : FnScope sc_Kept_change_N ["self", "place", "sign"] (defScope s_Kept_change) := ⟨rfl, rfl, rfl, by decide +kernel, rfl, by decide +kernel, by decide +kernel⟩
theorem fn_Kept_change {P : Program} {w : World} {K : PySem.W.Frag} {mg : Str → Option Value} {base : Heap} (T : Tx K mg) {f : Addr} {fd : FuncData} (F : FunD K "change" "Kept.change" (defArgs s_Kept_change) (defBody s_Kept_change) (defScope s_Kept_change) [] [] f fd) : Binds K fd ["self", "place", "sign"] [] ∧ FnOk P w K mg base CX0 (110) f fd ["self", "place", "sign"] (sp_Kept_change K) := by
  refine ⟨F.bindsN (fun _ _ _ _ _ _ us hl => match us, hl with | [_, _, _], _ => rfl), F.ok sc_Kept_change (fun vs H Q E h => ?_) (fun cdv A outer s H vs Q E hr h => ?_)⟩
  · (obtain ⟨x, g, d, top, side, pl, c, rfl, hK, hpl, hc, k⟩ := h)
    rfl
  · (obtain ⟨x, g, d, top, side, pl, c, rfl, hK, hpl, hc, k⟩ := h)
    refine ⟨_, PSs.nox (pss_cons (ps_set (i := 3) sc_Kept_change.nd rfl (Or.inl rfl) (pe_ms0 (pv 0) (ok_Kept_side T) (hr.mono (by decide))))
      (pss_cons (ps_expr (pe_fn (ok_need_place_kept T) (hr.mono (by decide)) (pa_cons (pv 1) (pa_cons (pe_op op_sub (pe_callB call_len_str (by rfl) T.z_len (by decide +kernel) (pa_cons (pv 3) pa_nil)) pe_int) pa_nil))))
      (pss_cons (ps_expr (pe_fn (ok_need_sign_kept T) (hr.mono (by decide)) (pa_cons (pv 2) pa_nil)))
      (pss_cons (ps_set (i := 4) sc_Kept_change.nd rfl (Or.inl rfl) (pe_fld (pe_fld (pv 0) rfl) rfl))
      (pss_cons (ps_fld (pv 0) (pe_ms (pe_fld (pv 0) rfl) (ok_Grower_change T) (hr.mono (by decide)) (pa_cons (pe_fld (pv 0) rfl) (pa_cons (pv 1) (pa_cons (pv 2) pa_nil)))) rfl)
      (pss_cons (ps_expr (pe_ms (pv 0) (ok_Kept_note T) (hr.mono (by decide)) (pa_cons (pv 4) pa_nil)))
      (pss_one (ps_ret (pe_ix ix_str (pv 3) (pv 1) (fun _ _ => rfl)))))))))), ?_⟩
    have cl := T.cl_Kept
    obtain ⟨dx, rv, fr, hx, hG, hO⟩ := id hK
    have rs := hO.row
    have r48 := rs.1
    obtain ⟨dxg, n, es, hg, _⟩ := id hG
    obtain ⟨a, h, rfl, hL⟩ := hO.resolve_left (fun z => by rw [z.1] at hpl; exact absurd hpl (Nat.not_lt_zero _))
    refine ⟨_, rfl, x, _, dx, _, rfl, hx, rfl, rfl, x, g, d, top, side, rfl, hK, ?_⟩
    refine ⟨_, rfl, _, rfl, _, rfl, zlen rs, _, _, rfl, rfl, ?_⟩
    rw [sOf_len]
    refine ⟨pl, _, rfl, by omega, by omega, ?_⟩
    refine ⟨_, rfl, c, rfl, hc, fun v1 H1 s1 e => ?_⟩
    have hG := hG.mono s1
    have hL := hL.mono s1
    have hx := s1 _ _ hx
    have hg := s1 _ _ hg
    refine ⟨_, rfl, x, _, dx, _, _, rfl, hx, cl, T.na_Kept_grower, rfl, g, _, dxg, _, _, rfl, hg, T.cl_Grower, T.na_Grower_given, rfl, ?_⟩
    refine ⟨_, rfl, x, _, dx, _, _, rfl, hx, cl, T.na_Kept_grower, rfl, g, _, dxg, _, rfl, hg, rfl, rfl, _, rfl, x, _, dx, _, _, rfl, hx, cl, T.na_Kept_root, rfl, _, rfl, _, rfl, g, d, a, top, side, h, pl, c, rfl, hG, hL, hpl, hc, by omega, ?_⟩
    rintro v2 H2 m2 G2 ⟨r, h', rfl, q⟩
    have hx2 := kept_x hx hG m2
    refine ⟨_, rfl, x, _, dx, _, rfl, hx2, cl, T.na_Kept_root, by simp, ?_⟩
    rw [putF_ne (by decide), putF_eq]
    obtain ⟨dx3, rv3, fr3, hx3, G3, O3⟩ := kept_set hx2 G2 (.inr ⟨r, h', rfl, q⟩)
    have m3 : Same (hidK x g d H1) _ := hidK_updx (o := .ins (He.ga K "Kept") dx (kFs g (.ref r) fr)) (hidK_of m2)
    refine ⟨_, rfl, x, _, dx3, _, rfl, hx3, rfl, rfl, _, rfl, x, g, d, dx3, _, rv3, top, _, n, rfl, hx3, rfl, rfl, by simp, O3, ?_⟩
    intro v4 H4 n4 s4 hx4
    refine ⟨_, rfl, _, rfl, sOf side, pl, _, rfl, rfl, zlen rs, at_str hpl, ?_⟩
    refine k _ _ ?_ (kept_note hx3 G3 O3 s4 hx4)
    exact fun y o e => hidK_hide m3 s4 y o (hide_same (hide_same (hide_same s1)) y o e)
theorem ok_Kept_change {P : Program} {w : World} {K : PySem.W.Frag} {mg : Str → Option Value} {base : Heap} (T : Tx K mg) : ∀ C, C = He.ga K "Kept" → Mt P w K mg base C "change" ["self", "place", "sign"] (110) (sp_Kept_change K) := by
  intro C hC
  subst hC
  obtain ⟨fd, F⟩ := T.D_Kept_change
  obtain ⟨b, G⟩ := fn_Kept_change (P := P) (w := w) (base := base) T F
  exact ⟨_, fd, T.cl_Kept, T.m_Kept_change, b, G⟩
def sp_Kept_retop (K : PySem.W.Frag) : Sp := fun vs H Q _ => ∃ (x g d : Addr) (top top' side : List Nat), vs = [.ref x, .str (sOf top')] ∧ KeptAt K H x g d top side ∧ Row top' ∧ RetK K x g d top' side H Q
abbrev sc_Kept_retop_N : List Str := ["self", "top", "side", "before"]
theorem sc_Kept_retop : FnScope sc_Kept_retop_N ["self", "top"] (defScope s_Kept_retop) := ⟨rfl, rfl, rfl, by decide +kernel, rfl, by decide +kernel, by decide +kernel⟩
theorem fn_Kept_retop {P : Program} {w : World} {K : PySem.W.Frag} {mg : Str → Option Value} {base : Heap} (T : Tx K mg) {f : Addr} {fd : FuncData} (F : FunD K "retop" "Kept.retop" (defArgs s_Kept_retop) (defBody s_Kept_retop) (defScope s_Kept_retop) [] [] f fd) : Binds K fd ["self", "top"] [] ∧ FnOk P w K mg base CX0 (110) f fd ["self", "top"] (sp_Kept_retop K) := by
  refine ⟨F.bindsN (fun _ _ _ _ _ _ us hl => match us, hl with | [_, _], _ => rfl), F.ok sc_Kept_retop (fun vs H Q E h => ?_) (fun cdv A outer s H vs Q E hr h => ?_)⟩
  · (obtain ⟨x, g, d, top, top', side, rfl, hK, rt, k⟩ := h)
    rfl
  · (obtain ⟨x, g, d, top, top', side, rfl, hK, rt, k⟩ := h)
    refine ⟨_, PSs.nox (pss_cons (ps_expr (pe_fn (ok_need_row T) (hr.mono (by decide)) (pa_cons (pv 1) pa_nil)))
      (pss_cons (ps_set (i := 2) sc_Kept_retop.nd rfl (Or.inl rfl) (pe_ms0 (pv 0) (ok_Kept_side T) (hr.mono (by decide))))
      (pss_cons (ps_set (i := 3) sc_Kept_retop.nd rfl (Or.inl rfl) (pe_fld (pe_fld (pv 0) rfl) rfl))
      (pss_cons (ps_fld (pv 0) (pe_nw (new_Grower T) (hr.mono (by decide)) (pa_cons (pv 1) (pa_cons (pv 3) pa_nil))) rfl)
      (pss_cons (ps_if (pt_cmpR op_ne (pv 2) pe_str (nomark _)) (pss_one (ps_fld (pv 0) (pe_ms (pe_fld (pv 0) rfl) (ok_Grower_grown T) (hr.mono (by decide)) (pa_cons (pv 2) pa_nil)) rfl)) pss_nil)
      (pss_one (ps_expr (pe_ms (pv 0) (ok_Kept_note T) (hr.mono (by decide)) (pa_cons (pv 3) pa_nil))))))))), ?_⟩
    have cl := T.cl_Kept
    have rs : Row side := by obtain ⟨_, _, _, _, _, o⟩ := hK; exact o.row
    refine ⟨_, rfl, top', rfl, rt, fun v1 H1 s1 e => ?_⟩
    have hK1 := hK.mono s1
    obtain ⟨dx, rv, fr, hx, hG, hO⟩ := id hK1
    obtain ⟨dxg, n, es, hg, _⟩ := id hG
    refine ⟨_, rfl, x, _, dx, _, rfl, hx, rfl, rfl, x, g, d, top, side, rfl, hK1, ?_⟩
    refine ⟨_, rfl, x, _, dx, _, _, rfl, hx, cl, T.na_Kept_grower, rfl, g, _, dxg, _, _, rfl, hg, T.cl_Grower, T.na_Grower_given, rfl, ?_⟩
    refine ⟨_, rfl, _, rfl, fun g2 dg hg2 hdg hne => ?_⟩
    have sm := same_make hg2 hdg (o1 := .own g2) (o2 := .ins (He.ga K "Grower") dg [])
    refine ⟨g2, dg, top', n, rfl, upd_same, rt, fun H2 d2 s2 hd0 G2 => ⟨rfl, ?_⟩⟩
    have s12 := sm.trans s2
    have hx2 := s12 _ _ hx
    have hg0 : H g2 = none := s1.free hg2
    have hdn : d2 ≠ g2 := fun z => by subst z; rw [upd_same] at hd0; cases hd0
    have hd1 : H1 d2 = none := by
      rw [upd_ne hdn] at hd0
      by_cases e2 : d2 = dg
      · rw [e2]; exact hdg
      · rwa [upd_ne e2] at hd0
    have hd00 : H d2 = none := s1.free hd1
    refine ⟨_, rfl, x, _, dx, _, rfl, hx2, cl, T.na_Kept_grower, by simp, ?_⟩
    rw [putF_eq]
    have G3 := G2.over (o := .ins (He.ga K "Kept") dx (kFs g2 rv fr)) hx2 rfl Bool.false_ne_true
    have m3 : Same (hidK x g d H) (upd H2 x (.ins (He.ga K "Kept") dx (kFs g2 rv fr))) := hidK_updx (hidK_of (hid_of (s1.trans s12)))
    dsimp only
    refine seq_mid (fun σ' H' => σ' = [some (.ref x), some (.str (sOf top')), some (.str (sOf side)), some (.int n)] ∧ Same (hidK x g d H) H' ∧ KeptAt K H' x g2 d2 top' side) (fun N hN => ?_) ?_
    · refine ⟨_, rfl, rfl, _, rfl, ?_⟩
      by_cases e : side = []
      · subst e
        have erv : rv = .non := by
          rcases hO with ⟨_, h⟩ | ⟨_, _, _, h⟩
          · exact h
          · exact absurd h.pos (Nat.not_lt_zero _)
        refine iteNF (emp_eq.mpr rfl) (hN _ _ ⟨rfl, m3, dx, rv, fr, upd_same, G3, .inl ⟨rfl, erv⟩⟩)
      · refine iteNT (fun z => e (emp_eq.mp z)) ?_
        obtain ⟨dx3, n3, es3, hg3, _⟩ := id G3
        refine ⟨_, rfl, x, _, dx, _, _, rfl, upd_same, cl, T.na_Kept_grower, rfl, g2, _, dx3, _, rfl, hg3, rfl, rfl, _, rfl, g2, d2, top', side, rfl, G3, rs, ?_, by have := rs.1; omega, ?_⟩
        · cases side with
          | nil => exact absurd rfl e
          | cons _ _ => simp
        rintro v6 H6 m6 G6 ⟨r, h, rfl, hL⟩
        have hx6 := kept_x (x := x) upd_same G3 m6
        refine ⟨_, rfl, x, _, dx, _, rfl, hx6, cl, T.na_Kept_root, by simp, ?_⟩
        rw [putF_ne (by decide), putF_eq]
        refine hN _ _ ⟨rfl, hidK_updx (fun y o ey => ?_), kept_set hx6 G6 (.inr ⟨r, h, rfl, hL⟩)⟩
        refine m6 y o (hide_of (hide_of (m3 y o ey) fun z => ?_) fun z => ?_)
        · subst z
          rw [(of_hide (of_hide (of_hide ey).1).1).1] at hg0
          cases hg0
        · subst z
          rw [(of_hide (of_hide (of_hide ey).1).1).1] at hd00
          cases hd00
    · rintro σ2 H5 ⟨rfl, m5, ⟨dx5, rv5, fr5, hx5, G5, O5⟩⟩
      refine ⟨_, rfl, x, _, dx5, _, rfl, hx5, rfl, rfl, _, rfl, x, g2, d2, dx5, _, rv5, top', _, n, rfl, hx5, rfl, rfl, by simp, O5, ?_⟩
      intro v6 H6 n6 s6 hx6
      exact k _ _ g2 d2 (hidK_hide m5 s6) (.inr hg0) (.inr hd00) (kept_note hx5 G5 O5 s6 hx6)
theorem ok_Kept_retop {P : Program} {w : World} {K : PySem.W.Frag} {mg : Str → Option Value} {base : Heap} (T : Tx K mg) : ∀ C, C = He.ga K "Kept" → Mt P w K mg base C "retop" ["self", "top"] (110) (sp_Kept_retop K) := by
  intro C hC
  subst hC
  obtain ⟨fd, F⟩ := T.D_Kept_retop
  obtain ⟨b, G⟩ := fn_Kept_retop (P := P) (w := w) (base := base) T F
  exact ⟨_, fd, T.cl_Kept, T.m_Kept_retop, b, G⟩
end Pt
end
section
set_option maxRecDepth 100000
set_option maxHeartbeats 4000000
namespace Pt
open PySem PySem.Spec PyProof.Rows L2
def sp_need_limit : Sp := fun vs H Q _ => ∃ m : Int, vs = [.int m] ∧ 0 ≤ m ∧ m ≤ 48 ∧ Q .non H
abbrev sc_need_limit_N : List Str := ["most"]
theorem sc_need_limit : FnScope sc_need_limit_N ["most"] (defScope s_need_limit) := ⟨rfl, rfl, rfl, by decide +kernel, rfl, by decide +kernel, by decide +kernel⟩
theorem ok_need_limit {P : Program} {w : World} {K : PySem.W.Frag} {mg : Str → Option Value} {base : Heap} (T : Tx K mg) : Fn P w K mg base "need_limit" ["most"] (3) sp_need_limit := by
  obtain ⟨fd, F⟩ := T.D_need_limit
  refine ⟨_, fd, T.g_need_limit, F.kp, F.bindsN (fun _ _ _ _ _ _ us hl => match us, hl with | [_], _ => rfl), F.ok sc_need_limit (fun vs H Q E h => ?_) (fun cdv A outer s H vs Q E hr h => ?_)⟩
  · (obtain ⟨m, rfl, h0, h1, k⟩ := h)
    rfl
  · (obtain ⟨m, rfl, h0, h1, k⟩ := h)
    refine ⟨_, PSs.nox (pss_one (ps_if (pt_not (pt_val (pe_fn (ok_is_within T) (hr.mono (by decide)) (pa_cons (pv 0) (pa_cons pe_int (pa_cons (pe_glob (v := .int 48) rfl (Classical.choose_spec T.c_MOST_COST) ⟨_, rfl⟩) pa_nil)))))) (pss_one ps_never) pss_nil)), ?_⟩
    refine ⟨_, rfl, m, 0, 48, rfl, ?_⟩
    have e1 : (decide ((0 : Int) ≤ m) && decide (m ≤ 48)) = true := by rw [decide_eq_true h0, decide_eq_true h1]; rfl
    rw [e1]
    exact ⟨_, rfl, iteF k⟩
def TsAt (H : Hp) (ts : List Addr) (ps : List I3) : Prop := ts.length = ps.length ∧ ∀ i, i < ps.length → TripAt H (ts.getD i 0) (ps.getD i default)
def T3 (H : Hp) (a : Addr) (ps : List I3) : Prop := ∃ ts, H a = some (.lst (RL ts)) ∧ TsAt H ts ps
theorem TsAt.mono {H H' : Hp} {ts : List Addr} {ps : List I3} (s : Same H H') (h : TsAt H ts ps) : TsAt H' ts ps := ⟨h.1, fun i hi => s _ _ (h.2 i hi)⟩
theorem T3.mono {H H' : Hp} {a : Addr} {ps : List I3} (s : Same H H') (h : T3 H a ps) : T3 H' a ps := let ⟨ts, h1, h2⟩ := h; ⟨ts, s _ _ h1, h2.mono s⟩
theorem TsAt.snoc {H : Hp} {ts : List Addr} {ps : List I3} {t : Addr} {p : I3} (h : TsAt H ts ps) (ht : TripAt H t p) : TsAt H (ts ++ [t]) (ps ++ [p]) := by
  refine ⟨by simp [h.1], fun i hi => ?_⟩
  rw [getD_snoc, getD_snoc, h.1]
  by_cases c : i < ps.length
  · rw [if_pos c, if_pos c]; exact h.2 i c
  · have : i = ps.length := by simp at hi; omega
    rw [if_neg c, if_neg c, if_pos this, if_pos this]
    exact ht
def CostAt (H : Hp) (a : Addr) (C : List (List Int)) : Prop := ∃ cs, H a = some (.lst (RL cs)) ∧ cs.length = C.length ∧ ∀ i, i < C.length → H (cs.getD i 0) = some (.lst ((C.getD i []).map V.int))
theorem CostAt.mono {H H' : Hp} {a : Addr} {C : List (List Int)} (s : Same H H') (h : CostAt H a C) : CostAt H' a C := let ⟨cs, h1, h2, h3⟩ := h; ⟨cs, s _ _ h1, h2, fun i hi => s _ _ (h3 i hi)⟩
theorem int_at {l : List Int} {i : Nat} {x : V} (h : (l.map V.int)[i]? = some x) : i < l.length ∧ x = .int (l.getD i 0) := by
  have hi : i < l.length := by
    have := (List.getElem?_eq_some_iff.mp h).1
    simpa using this
  refine ⟨hi, ?_⟩
  rw [List.getElem?_map, List.getElem?_eq_getElem hi] at h
  have := Option.some.inj h
  rw [← this]
  simp [List.getD, hi]
def tripOf (H : Hp) : V → I3
  | .ref t => match H t with
    | some (.tup [.int x, .int y, .int z]) => (x, y, z)
    | _ => default
  | _ => default
theorem tripOf_at {H : Hp} {t : Addr} {p : I3} (h : TripAt H t p) : tripOf H (.ref t) = p := by
  have h' : H t = some (.tup [.int p.1, .int p.2.1, .int p.2.2]) := h
  simp only [tripOf, h']
theorem sorted_done {H : Hp} {ts : List Addr} {ps : List I3} (h : TsAt H ts ps) {ys : List V} (hs : SrtO.Srtd (fun x y => LtL (tripOf H x) (tripOf H y)) ys) (hp : ys.Perm (RL ts)) : ∃ us qs, ys = RL us ∧ TsAt H us qs ∧ Srt qs ∧ qs.Perm ps := by
  obtain ⟨us, rfl⟩ : ∃ us, ys = RL us := refs_of fun x hx => by
    have := hp.mem_iff.mp hx
    obtain ⟨t, _, e⟩ := List.mem_map.mp this
    exact ⟨t, e.symm⟩
  have e1 : (RL ts).map (tripOf H) = ps := by
    refine List.ext_getElem (by simp [h.1]) fun i h1 h2 => ?_
    have := h.2 i h2
    have hi : i < ts.length := by rw [h.1]; exact h2
    simp only [List.getElem_map]
    have e2 : ts.getD i 0 = ts[i] := by simp [List.getD, hi]
    have e3 : ps.getD i default = ps[i] := by simp [List.getD, h2]
    rw [← e3, ← e2]
    exact tripOf_at this
  refine ⟨us, (RL us).map (tripOf H), rfl, ⟨by simp, fun i hi => ?_⟩, SrtO.srtd_map (f := tripOf H) (lt := LtL) hs, e1 ▸ hp.map _⟩
  have hi' : i < us.length := by simpa using hi
  have hm : V.ref (us.getD i 0) ∈ RL ts := hp.mem_iff.mp (by
    refine List.mem_map.mpr ⟨us.getD i 0, ?_, rfl⟩
    simp [List.getD, hi'])
  obtain ⟨t, ht, e⟩ := List.mem_map.mp hm
  obtain ⟨j, hj, rfl⟩ := List.mem_iff_getElem.mp ht
  have hj' : j < ps.length := by rw [← h.1]; exact hj
  have q := h.2 j hj'
  have e2 : ts.getD j 0 = ts[j] := by simp [List.getD, hj]
  have e3 : us.getD i 0 = ts.getD j 0 := by rw [e2]; exact (V.ref.inj e).symm
  rw [e3]
  have e4 : ((RL us).map (tripOf H)).getD i default = ps.getD j default := by
    have : ((RL us).map (tripOf H)).getD i default = tripOf H (.ref (us.getD i 0)) := by simp [List.getD, hi']
    rw [this, e3]
    exact tripOf_at q
  rw [e4]
  exact q
def sp_ranked : Sp := fun vs H Q _ => ∃ (a : Addr) (C : List (List Int)) (m : Int), vs = [.ref a, .int m] ∧ CostAt H a C ∧ C.length ≤ 25 ∧ (∀ b, (C.getD b []).length ≤ 25) ∧ Ret (fun v H' => ∃ r rows, v = .ref r ∧ H r = none ∧ T3 H' r rows ∧ Near C m rows) H Q
abbrev sc_ranked_N : List Str := ["costs", "most", "found", "begin", "row", "many", "cost"]
theorem sc_ranked : FnScope sc_ranked_N ["costs", "most"] (defScope s_ranked) := ⟨rfl, rfl, rfl, by decide +kernel, rfl, by decide +kernel, by decide +kernel⟩
theorem ok_ranked {P : Program} {w : World} {K : PySem.W.Frag} {mg : Str → Option Value} {base : Heap} (T : Tx K mg) : Fn P w K mg base "ranked" ["costs", "most"] (1) sp_ranked := by
  obtain ⟨fd, F⟩ := T.D_ranked
  refine ⟨_, fd, T.g_ranked, F.kp, F.bindsN (fun _ _ _ _ _ _ us hl => match us, hl with | [_, _], _ => rfl), F.ok sc_ranked (fun vs H Q E h => ?_) (fun cdv A outer s H vs Q E hr h => ?_)⟩
  · (obtain ⟨a, C, m, rfl, ⟨cs, ha, hcl, hc⟩, hz, hw, k⟩ := h)
    rfl
  · (obtain ⟨a, C, m, rfl, ⟨cs, ha, hcl, hc⟩, hz, hw, k⟩ := h)
    refine ⟨_, PSs.nox (pss_cons (ps_set (i := 2) sc_ranked.nd rfl (Or.inl rfl) (pe_lst pa_nil))
      (pss_cons (ps_for PassesOwn.never rfl (pi_enum (by rfl) T.z_enumerate (pa_cons (pv 0) pa_nil)) (pg_tup rfl (pgs_cons (pg_name (i := 3) sc_ranked.nd rfl (Or.inl rfl)) (pgs_cons (pg_name (i := 4) sc_ranked.nd rfl (Or.inl rfl)) pgs_nil)))
      (pss_one (ps_for PassesOwn.never rfl (pi_enum (by rfl) T.z_enumerate (pa_cons (pv 4) pa_nil)) (pg_tup rfl (pgs_cons (pg_name (i := 5) sc_ranked.nd rfl (Or.inl rfl)) (pgs_cons (pg_name (i := 6) sc_ranked.nd rfl (Or.inl rfl)) pgs_nil)))
      (pss_one (ps_if (PW.pt (pw_and (pt_cmpR op_gt (pv 5) pe_int (nomark _)) (pw_and1 (pt_cmpR op_le (pv 6) (pv 1) (nomark _))))) (pss_one (ps_expr (pe_bm PySem.F.plainAttrs_list PySem.F.slot_list_append PySem.F.type_list_append mt_append (pv 2) (pa_cons (pe_tup (pa_cons (pv 6) (pa_cons (pv 3) (pa_cons (pe_op op_add (pv 3) (pv 5)) pa_nil)))) pa_nil)))) pss_nil)))))
      (pss_one (ps_ret (pe_callB cr_sorted3 (by rfl) T.z_sorted (by decide +kernel) (pa_cons (pv 2) pa_nil)))))), ?_⟩
    refine ⟨Nat.zero_le _, fun f hf => ?_⟩
    refine ⟨_, rfl, a, _, rfl, SqL.of ((same_new hf) _ _ ha), for_it (walk_enum (xs := RL cs)) (fun i σ H' => ∃ (v1 v2 v3 v4 : Option V) (ts : List Addr), σ = [some (.ref a), some (.int m), some (.ref f), v1, v2, v3, v4] ∧ Same H H' ∧ H' f = some (.lst (RL ts)) ∧ TsAt H' ts (genT C m i))
      ⟨none, none, none, none, [], rfl, same_new hf, upd_same, rfl, fun i hi => absurd hi (Nat.not_lt_zero _)⟩ (fun i σ H' _ ⟨_, _, _, _, _, _, s, _⟩ => SqL.of (s _ _ ha)) ?_ ?_⟩
    · rintro i x σ H1 H2 hi ⟨v1, v2, v3, v4, ts, rfl, s, hF, hT⟩ ⟨Tp, y, z, rfl, hTp, rfl, e1, e2⟩
      obtain ⟨hb, rfl⟩ := RL_at e2
      cases e1
      have hic : i < C.length := by rw [← hcl]; exact hb
      have hrow := hc i hic
      refine ⟨Tp, _, rfl, SqT.of upd_same, rfl, _, _, rfl, _, _, rfl, rfl, ?_⟩
      have s1 := same_upd s (o := .tup [.int i, .ref (cs.getD i 0)]) (s.free hTp)
      have hF1 := (upd_ne (ne_of_none hF hTp) (o := .tup [.int i, .ref (cs.getD i 0)])).trans hF
      have hl := hw i
      generalize hR : C.getD i [] = row at hrow hl
      have hfr : H f = none := hf
      refine ⟨_, rfl, _, _, rfl, SqL.of (s1 _ _ hrow), for_it (walk_enum (xs := row.map V.int)) (fun j σ H' => ∃ (v3 v4 : Option V) (ts : List Addr), σ = [some (.ref a), some (.int m), some (.ref f), some (.int i), some (.ref (cs.getD i 0)), v3, v4] ∧ Same H H' ∧ H' f = some (.lst (RL ts)) ∧ TsAt H' ts (genT C m i ++ genRow i row m j))
        ⟨v3, v4, ts, rfl, s1, hF1, by simpa [genRow] using hT.mono (same_new hTp)⟩ (fun j σ H' _ ⟨_, _, _, _, s, _⟩ => SqL.of (s _ _ hrow)) ?_ ?_⟩
      · rintro j x σ H3 H4 hj ⟨w3, w4, ts, rfl, s, hF, hT⟩ ⟨Tq, y, z, rfl, hTq, rfl, e1, e2⟩
        obtain ⟨hb2, rfl⟩ := int_at e2
        cases e1
        refine ⟨Tq, _, rfl, SqT.of upd_same, rfl, _, _, rfl, _, _, rfl, rfl, ?_⟩
        have s2 := same_upd s (o := .tup [.int j, .int (row.getD j 0)]) (s.free hTq)
        have hF2 := (upd_ne (ne_of_none hF hTq) (o := .tup [.int j, .int (row.getD j 0)])).trans hF
        have hT2 := hT.mono (same_new hTq (o := .tup [.int j, .int (row.getD j 0)]))
        rw [genRow_succ]
        refine ⟨_, rfl, _, _, rfl, rfl, _, rfl, ?_⟩
        by_cases c1 : 0 < j
        · refine iteDT (by omega) ⟨_, rfl, _, rfl, _, _, rfl, rfl, _, rfl, ?_⟩
          by_cases c2 : row.getD j 0 ≤ m
          · refine iteDT c2 ?_
            rw [if_pos ⟨c1, c2⟩]
            refine ⟨_, rfl, .inl ⟨rfl, _, SqL.of hF2⟩, _, rfl, _, rfl, _, rfl, _, rfl, _, _, rfl, rfl, (by show 3 ≤ sizeLine; decide), fun q hq => ?_⟩
            have hF3 := (upd_ne (ne_of_none hF2 hq) (o := .tup [.int (row.getD j 0), .int i, .int ((i : Int) + j)])).trans hF2
            have htl : ts.length ≤ 1000 := by
              have e3 := hT.1
              have e4 := genT_len (C := C) (m := m) hw i
              have e5 := genRow_len i row m j
              have e6 : i * 25 ≤ 25 * 25 := Nat.mul_le_mul_right _ (by omega)
              have e7 : j < 25 := by omega
              rw [List.length_append] at e3
              omega
            refine ⟨f, _, _, rfl, rfl, hF3, bigS _ (by rw [RL_len]; omega), ?_⟩
            refine ⟨_, _, ts ++ [q], rfl, same_upd (same_upd s2 (s2.free hq)) hfr, by rw [upd_same]; simp [RL], ?_⟩
            rw [← List.append_assoc]
            have hnf : ∀ {H' : Hp} {t : Addr} {p : I3}, H' f = some (.lst (RL ts)) → TripAt H' t p → t ≠ f := fun e1 e2 z => by subst z; rw [TripAt, e1] at e2; cases e2
            have hT3 := (hT2.mono (same_new hq (o := .tup [.int (row.getD j 0), .int i, .int ((i : Int) + j)]))).snoc (t := q) (p := (row.getD j 0, (i : Int), (i : Int) + j)) upd_same
            refine ⟨hT3.1, fun l hl => ?_⟩
            have q3 := hT3.2 l hl
            by_cases e8 : (ts ++ [q]).getD l 0 = f
            · rw [e8] at q3
              rw [TripAt, hF3] at q3
              cases q3
            · rw [TripAt, upd_ne e8]
              exact q3
          · refine iteDF c2 ?_
            rw [if_neg (fun z => c2 z.2), List.append_nil]
            exact ⟨_, _, ts, rfl, s2, hF2, hT2⟩
        · refine iteDF (by omega) ?_
          rw [if_neg (fun z => c1 z.1), List.append_nil]
          exact ⟨_, _, ts, rfl, s2, hF2, hT2⟩
      · rintro σ H3 ⟨w3, w4, ts, rfl, s, hF, hT⟩
        refine ⟨_, _, _, _, ts, rfl, s, hF, ?_⟩
        rw [genT_succ, hR]
        have : (row.map V.int).length = row.length := by simp
        rw [this] at hT
        exact hT
    · rintro σ H1 ⟨v1, v2, v3, v4, ts, rfl, s, hF, hT⟩
      rw [RL_len, hcl] at hT
      refine ⟨_, rfl, f, _, tripOf H1, rfl, SqL.of hF, fun x hx => ?_, fun ys p hs hp hpn => ?_⟩
      · obtain ⟨t, ht, rfl⟩ := List.mem_map.mp hx
        obtain ⟨j, hj, rfl⟩ := List.mem_iff_getElem.mp ht
        have q := hT.2 j (by rw [← hT.1]; exact hj)
        have e2 : ts.getD j 0 = ts[j] := by simp [List.getD, hj]
        rw [e2] at q
        exact ⟨_, rfl, by rw [tripOf_at q]; exact q⟩
      · obtain ⟨us, qs, rfl, hU, hsr, hpm⟩ := sorted_done hT hs hp
        exact k _ _ (same_upd s (s.free hpn)) ⟨p, qs, rfl, s.free hpn, ⟨us, upd_same, hU.mono (same_new hpn)⟩, hsr, hpm⟩
end Pt
end
section
set_option maxRecDepth 100000
set_option maxHeartbeats 4000000
namespace Pt
open PySem PySem.Spec PyProof.Rows L2
section
variable {X : Cx} {a b c d : Expr} {ta tb tc td : TE} {pos : Pos}
def tChain3 (r r' r'' : R2) (ta tb tc td : TE) : TE := fun σ H Q => ta σ H fun x H1 => tb σ H1 fun y H2 => r x y H2 fun z H3 => ∃ k, z = .bl k ∧
  (if k = true then tc σ H3 fun w' H4 => r' y w' H4 fun z2 H5 => ∃ k2, z2 = .bl k2 ∧ (if k2 = true then td σ H5 fun w2 H6 => r'' w' w2 H6 Q else Q (.bl false) H5) else Q (.bl false) H3)
theorem pe_chain3 {op op' op'' : CmpOp} {r r' r'' : R2} (ho : OpR X (compareOp op) r) (ho' : OpR X (compareOp op') r') (ho'' : OpR X (compareOp op'') r'') (ha : PE X a ta) (hb : PE X b tb) (hc : PE X c tc) (hd : PE X d td)
    (hm : lastMarks [op, op', op''] [b, c, d] = false := by with_unfolding_all rfl) : PE X (.Compare a [op, op', op''] [b, c, d] pos) (tChain3 r r' r'' ta tb tc td) := by
  refine ⟨fun pins s σ H Q I h => ?_⟩
  refine Compare_chain (thn (ha.run pins s σ H _ I h) fun v s1 ⟨x, H1, I1, r1, q1⟩ => chain_link (thn (hb.run pins s1 σ H1 _ I1 q1) fun u s2 ⟨y, H2, I2, r2, q2⟩ =>
    thn (ho pins s2 σ H2 x y v u _ I2 r1 r2 q2) fun d s3 ⟨z, H3, I3, r3, k, e, q3⟩ => ?_)) hm
  subst e
  cases r3
  refine wpAny_truthy_bool ?_
  cases k with
  | false => exact ite_ff ⟨.bl false, H3, I3, rfl, q3⟩
  | true =>
    refine ite_tt (chain_link (thn (hc.run pins s3 σ H3 _ I3 q3) fun w' s4 ⟨z', H4, I4, r4, q4⟩ => thn (ho' pins s4 σ H4 y z' u w' _ I4 r2 r4 q4) fun d5 s5 ⟨z5, H5, I5, r5, k2, e5, q5⟩ => ?_))
    subst e5
    cases r5
    refine wpAny_truthy_bool ?_
    cases k2 with
    | false => exact ite_ff ⟨.bl false, H5, I5, rfl, q5⟩
    | true => exact ite_tt (chain_last (thn (hd.run pins s5 σ H5 _ I5 q5) fun w6 s6 ⟨z6, H6, I6, r6, q6⟩ => ho'' pins s6 σ H6 z' z6 w' w6 Q I6 r4 r6 q6))
end
def TupI (H : Hp) (a : Addr) (r : List Int) : Prop := H a = some (.tup (r.map V.int))
def sp_are_wholes : Sp := fun vs H Q _ => ∃ (a : Addr) (r : List Int), vs = [.ref a, nV r.length] ∧ TupI H a r ∧ r.length ≤ 10 ∧ Ret (fun v _ => v = .bl true) H Q
abbrev sc_are_wholes_N : List Str := ["thing", "many", "part"]
theorem sc_are_wholes : FnScope sc_are_wholes_N ["thing", "many"] (defScope s_are_wholes) := ⟨rfl, rfl, rfl, by decide +kernel, rfl, by decide +kernel, by decide +kernel⟩
theorem ok_are_wholes {P : Program} {w : World} {K : PySem.W.Frag} {mg : Str → Option Value} {base : Heap} (T : Tx K mg) : Fn P w K mg base "are_wholes" ["thing", "many"] (2) sp_are_wholes := by
  obtain ⟨fd, F⟩ := T.D_are_wholes
  refine ⟨_, fd, T.g_are_wholes, F.kp, F.bindsN (fun _ _ _ _ _ _ us hl => match us, hl with | [_, _], _ => rfl), F.ok sc_are_wholes (fun vs H Q E h => ?_) (fun cdv A outer s H vs Q E hr h => ?_)⟩
  · (obtain ⟨a, r, rfl, ha, hz, k⟩ := h)
    rfl
  · (obtain ⟨a, r, rfl, ha, hz, k⟩ := h)
    refine ⟨_, PSs.nox (pss_one (ps_ret (pe_and (pe_callB call_isi (by rfl) T.z_isinstance (by decide +kernel) (pa_cons (pv 0) (pa_cons (pe_bltn (v := .ty "tuple") (by rfl) T.z_tuple (by decide +kernel) rfl) pa_nil))) (pe_and (pe_cmpR op_eq (pe_callB call_len_seq (by rfl) T.z_len (by decide +kernel) (pa_cons (pv 0) pa_nil)) (pv 1) (nomark _)) (pe_one (pe_callB (cr_all rfl) (by rfl) T.z_all (by decide +kernel) (pa_cons (pe_lc (own := [("part", 2)]) rfl sc_are_wholes.nd (pi_tup (pv 0)) (blkOk_by (N := sc_are_wholes_N) (sc := defScope s_are_wholes) (by decide +kernel)) (fun _ _ _ _ _ => (pg_name (i := 2) sc_are_wholes.nd rfl (Or.inl rfl))) (fun _ _ _ _ _ => pts_nil) (fun _ _ _ _ _ => (pe_fn (ok_is_whole T) (hr.mono (by decide)) (pa_cons (pv 2) pa_nil)))) pa_nil))))))), ?_⟩
    have lr : (r.map V.int).length = r.length := by simp
    have ha' : H a = some (.tup (r.map V.int)) := ha
    refine ⟨_, rfl, _, _, _, _, _, rfl, .ty _, .base (.tup ha'), kit_ty (r := true) (by decide +kernel), _, rfl, iteT ?_⟩
    refine ⟨_, rfl, a, _, rfl, .inr (SqT.of ha'), _, rfl, rfl, _, rfl, iteDT (by rw [lr]; rfl) ?_⟩
    refine ⟨_, rfl, a, rfl, ⟨_, SqT.of ha'⟩, fun D hD => lcV (walk_tup (xs := r.map V.int)) (by rw [lr]; omega) hD (fun _ => .bl true) (fun H' s => SqT.of (s _ _ ha')) ?_ ?_⟩
    · rintro i x H1 H2 Q' hi s ⟨rfl, hx⟩ k'
      obtain ⟨hb, rfl⟩ := int_at hx
      exact ⟨rfl, _, rfl, _, rfl, k' _ (Same.refl _)⟩
    · intro H1 s1 hD1
      refine ⟨D, List.replicate r.length true, rfl, SqL.of ?_, ?_⟩
      · rw [hD1, lr, List.map_const', List.length_range, List.map_replicate]
      · have e : (List.replicate r.length true).all id = true := by simp
        rw [e]
        exact k _ _ s1 rfl
def sp_is_told : Sp := fun vs H Q _ => ∃ (a : Addr) (p : I3), vs = [.ref a] ∧ TripAt H a p ∧ (0 ≤ p.1 ∧ p.1 ≤ 48 ∧ 0 ≤ p.2.1 ∧ p.2.1 < p.2.2 ∧ p.2.2 ≤ 24) ∧ Ret (fun v _ => v = .bl true) H Q
abbrev sc_is_told_N : List Str := ["thing", "cost", "begin", "end"]
theorem sc_is_told : FnScope sc_is_told_N ["thing"] (defScope s_is_told) := ⟨rfl, rfl, rfl, by decide +kernel, rfl, by decide +kernel, by decide +kernel⟩
theorem ok_is_told {P : Program} {w : World} {K : PySem.W.Frag} {mg : Str → Option Value} {base : Heap} (T : Tx K mg) : Fn P w K mg base "is_told" ["thing"] (3) sp_is_told := by
  obtain ⟨fd, F⟩ := T.D_is_told
  refine ⟨_, fd, T.g_is_told, F.kp, F.bindsN (fun _ _ _ _ _ _ us hl => match us, hl with | [_], _ => rfl), F.ok sc_is_told (fun vs H Q E h => ?_) (fun cdv A outer s H vs Q E hr h => ?_)⟩
  · (obtain ⟨a, ⟨x, y, z⟩, rfl, ha, ⟨h1, h2, h3, h4, h5⟩, k⟩ := h)
    rfl
  · (obtain ⟨a, ⟨x, y, z⟩, rfl, ha, ⟨h1, h2, h3, h4, h5⟩, k⟩ := h)
    refine ⟨_, PSs.nox (pss_cons (ps_if (pt_not (pt_val (pe_fn (ok_are_wholes T) (hr.mono (by decide)) (pa_cons (pv 0) (pa_cons pe_int pa_nil))))) (pss_one (ps_ret pe_bl)) pss_nil)
      (pss_cons (ps_asg (pv 0) (pg_tup (by rfl) (pgs_cons (pg_name (i := 1) sc_is_told.nd rfl (Or.inl rfl)) (pgs_cons (pg_name (i := 2) sc_is_told.nd rfl (Or.inl rfl)) (pgs_cons (pg_name (i := 3) sc_is_told.nd rfl (Or.inl rfl)) pgs_nil)))))
      (pss_one (ps_ret (pe_and (pe_chain op_le op_le pe_int (pv 1) (pe_glob (v := .int 48) rfl (Classical.choose_spec T.c_MOST_COST) ⟨_, rfl⟩)) (pe_one (pe_chain3 op_le op_lt op_le pe_int (pv 2) (pv 3) (pe_glob (v := .int 24) rfl (Classical.choose_spec T.c_MOST_LETTERS) ⟨_, rfl⟩)))))))), ?_⟩
    simp only at h1 h2 h3 h4 h5
    have ha' : H a = some (.tup [.int x, .int y, .int z]) := ha
    refine ⟨_, rfl, a, [x, y, z], rfl, ha', by simp, ?_⟩
    rintro v H1 s1 rfl
    refine ⟨_, rfl, iteF ?_⟩
    refine ⟨_, rfl, a, _, rfl, SqT.of (s1 _ _ ha'), rfl, _, _, rfl, _, _, rfl, _, _, rfl, rfl, ?_⟩
    refine ⟨_, rfl, _, _, rfl, rfl, _, rfl, iteDT h1 ⟨_, _, rfl, rfl, _, rfl, iteDT h2 ?_⟩⟩
    refine ⟨_, rfl, _, _, rfl, rfl, _, rfl, iteDT h3 ⟨_, rfl, _, _, rfl, rfl, _, rfl, iteDT h4 ⟨_, _, rfl, rfl, ?_⟩⟩⟩
    exact k _ _ s1 (congrArg V.bl (decide_eq_true h5))
theorem lexAt_no {p q : I3} (h : LtL q p = true) : Ob.lexAt (fun j => decide ([p.1, p.2.1, p.2.2].getD j 0 = [q.1, q.2.1, q.2.2].getD j 0)) (fun j => decide ([p.1, p.2.1, p.2.2].getD j 0 ≤ [q.1, q.2.1, q.2.2].getD j 0)) (decide ([p.1, p.2.1, p.2.2].length ≤ [q.1, q.2.1, q.2.2].length)) 0 (min [p.1, p.2.1, p.2.2].length [q.1, q.2.1, q.2.2].length) = false := by
  have h := ltL_iff.mp h
  show Ob.lexAt _ _ _ 0 3 = false
  rw [Ob.lexAt_succ]
  show (if decide (p.1 = q.1) = true then _ else decide (p.1 ≤ q.1)) = false
  by_cases e1 : p.1 = q.1
  · rw [if_pos (decide_eq_true e1), Ob.lexAt_succ]
    show (if decide (p.2.1 = q.2.1) = true then _ else decide (p.2.1 ≤ q.2.1)) = false
    by_cases e2 : p.2.1 = q.2.1
    · rw [if_pos (decide_eq_true e2), Ob.lexAt_succ]
      show (if decide (p.2.2 = q.2.2) = true then _ else decide (p.2.2 ≤ q.2.2)) = false
      rw [if_neg (by rw [decide_eq_true_eq]; omega)]
      exact decide_eq_false (by omega)
    · rw [if_neg (by rw [decide_eq_true_eq]; exact e2)]
      exact decide_eq_false (by omega)
  · rw [if_neg (by rw [decide_eq_true_eq]; exact e1)]
    exact decide_eq_false (by omega)
def skey (s : Spn) : List Key := [.inl s.1, .inl s.2]
theorem skey_inj {s t : Spn} (h : skey s = skey t) : s = t := by
  obtain ⟨a, b⟩ := s
  obtain ⟨c, d⟩ := t
  unfold skey at h
  simp at h
  rw [h.1, h.2]
theorem srt_lt {l : List I3} (h : NearOk l) {i j : Nat} (hij : i < j) (hj : j < l.length) : LtL (l.getD i default) (l.getD j default) = true := by
  have hi : i < l.length := by omega
  have e1 : l.getD i default = l[i] := by simp [List.getD, hi]
  have e2 : l.getD j default = l[j] := by simp [List.getD, hj]
  rw [e1, e2]
  have q := ltL_no.mp (List.pairwise_iff_getElem.mp h.srt i j hi hj hij)
  have hs : span l[i] ≠ span l[j] := by
    have := List.pairwise_iff_getElem.mp h.nd i j (by simpa using hi) (by simpa using hj) hij
    simpa using this
  have hs' : ¬ (l[i].2.1 = l[j].2.1 ∧ l[i].2.2 = l[j].2.2) := fun z => hs (Prod.ext z.1 z.2)
  exact ltL_iff.mpr (by omega)
theorem valV_none {κ : Type} [DecidableEq κ] : ∀ {kvs : List (κ × V)} {k : κ}, ¬ k ∈ kvs.map (·.1) → valV kvs k = none
  | [], _, _ => rfl
  | p :: r, k, h => by
    rw [valV_neg (fun e => h (by rw [← e]; simp))]
    exact valV_none fun z => h (List.mem_cons_of_mem _ z)
theorem sl3 {v1 v2 v3 : V} : ¬ (HT.sIx [v1, v2, v3].length 0 (some 1) = 0 ∧ HT.sIx [v1, v2, v3].length [v1, v2, v3].length none = [v1, v2, v3].length) := fun z => absurd z.1 (by show ¬ HT.sIx 3 0 (some ((1 : Nat) : Int)) = 0; rw [HT.sIx_nat]; decide)
theorem cut3 {v1 v2 v3 : V} : cutV [v1, v2, v3] (some 1) none = [v2, v3] := cut_from (k := 1) (by simp)
theorem span_new {l : List I3} (h : (spans l).Nodup) {i : Nat} (hi : i < l.length) : ¬ span (l.getD i default) ∈ spans (l.take i) := by
  intro z
  have e1 : l.getD i default = l[i] := by simp [List.getD, hi]
  rw [e1] at z
  obtain ⟨p, hp, e⟩ := List.mem_map.mp z
  obtain ⟨j, hj, rfl⟩ := List.mem_iff_getElem.mp hp
  have hj' : j < i := by simp at hj; omega
  have := List.pairwise_iff_getElem.mp h j i (by simp; omega) (by simpa using hi) hj'
  simp at this e
  exact this e
def sp_is_ranked : Sp := fun vs H Q _ => ∃ (a : Addr) (l : List I3), vs = [.ref a] ∧ T3 H a l ∧ NearOk l ∧ Ret (fun v _ => v = .bl true) H Q
abbrev sc_is_ranked_N : List Str := ["thing", "known", "before", "row"]
theorem sc_is_ranked : FnScope sc_is_ranked_N ["thing"] (defScope s_is_ranked) := ⟨rfl, rfl, rfl, by decide +kernel, rfl, by decide +kernel, by decide +kernel⟩
theorem ok_is_ranked {P : Program} {w : World} {K : PySem.W.Frag} {mg : Str → Option Value} {base : Heap} (T : Tx K mg) : Fn P w K mg base "is_ranked" ["thing"] (4) sp_is_ranked := by
  obtain ⟨fd, F⟩ := T.D_is_ranked
  refine ⟨_, fd, T.g_is_ranked, F.kp, F.bindsN (fun _ _ _ _ _ _ us hl => match us, hl with | [_], _ => rfl), F.ok sc_is_ranked (fun vs H Q E h => ?_) (fun cdv A outer s H vs Q E hr h => ?_)⟩
  · (obtain ⟨a, l, rfl, ⟨ts, ha, hT⟩, hl, k⟩ := h)
    rfl
  · (obtain ⟨a, l, rfl, ⟨ts, ha, hT⟩, hl, k⟩ := h)
    refine ⟨_, PSs.nox (pss_cons (ps_if (pt_not (pt_val (pe_callB call_isi (by rfl) T.z_isinstance (by decide +kernel) (pa_cons (pv 0) (pa_cons (pe_bltn (v := .ty "list") (by rfl) T.z_list (by decide +kernel) rfl) pa_nil))))) (pss_one (ps_ret pe_bl)) pss_nil)
      (pss_cons (ps_set (i := 1) sc_is_ranked.nd rfl (Or.inl rfl) pe_dnewT)
      (pss_cons (ps_set (i := 2) sc_is_ranked.nd rfl (Or.inl rfl) (pe_tup (pa_cons (pe_un un_neg pe_int) (pa_cons pe_int (pa_cons pe_int pa_nil)))))
      (pss_cons (ps_for PassesOwn.never rfl (pi_list (pv 0)) (pg_name (i := 3) sc_is_ranked.nd rfl (Or.inl rfl))
      (pss_cons (ps_if (PW.pt (pw_or (pt_not (pt_val (pe_fn (ok_is_told T) (hr.mono (by decide)) (pa_cons (pv 3) pa_nil)))) (pw_or (pt_cmpR (op_leT hr.units0) (pv 3) (pv 2) (nomark _)) (pw_or1 (pt_cmp (pc_din (hu_of hr) (pe_slice sl_tup (pv 3) (po_some pe_int) po_none) (pv 1))))))) (pss_one (ps_ret pe_bl)) pss_nil)
      (pss_cons (ps_dput (hu_of hr) (pv 1) (pe_slice sl_tup (pv 3) (po_some pe_int) po_none) pe_bl rfl)
      (pss_one (ps_set (i := 2) sc_is_ranked.nd rfl (Or.inl rfl) (pv 3))))))
      (pss_one (ps_ret pe_bl)))))), ?_⟩
    have few := hl.few
    refine ⟨_, rfl, _, _, _, _, _, rfl, .ty _, .base (.lst ha), kit_ty (r := true) (by decide +kernel), _, rfl, iteF ?_⟩
    refine fun d hd => ?_
    have s1 := same_new (o := .dT []) hd
    refine ⟨1, rfl, (by show 3 ≤ sizeLine; decide), fun b hb => ?_⟩
    have s2 := same_upd s1 (o := .tup [.int (-1), .int 0, .int 0]) (s1.free hb)
    have hd2 := (same_new hb (o := .tup [.int (-1), .int 0, .int 0])) _ _ (upd_same (H := H) (a := d) (o := .dT []))
    refine ⟨_, rfl, a, rfl, ⟨_, SqL.of (s2 _ _ ha)⟩, for_list (K := K) (a := a) (xs := RL ts) (fun i σ H' => ∃ (v : Option V) (b : Addr) (q : I3), σ = [some (.ref a), some (.ref d), some (.ref b), v] ∧ Same H H' ∧ H' d = some (.dT ((l.take i).map fun p => (skey (span p), V.bl true))) ∧ TripAt H' b q ∧ (i < l.length → LtL q (l.getD i default) = true))
      ⟨none, b, (-1, 0, 0), rfl, s2, hd2, upd_same, fun h0 => ?_⟩ (fun i σ H' _ ⟨_, _, _, _, s, _⟩ => SqL.of (s _ _ ha)) ?_ ?_⟩
    · have e1 : l.getD 0 default = l[0] := by simp [List.getD, h0]
      have := (hl.ok l[0] (List.getElem_mem h0)).1
      rw [e1]
      exact ltL_iff.mpr (by simp only; omega)
    · rintro i x σ H1 hx ⟨v, b, q, rfl, s, hd1, hb1, hlt⟩
      obtain ⟨hbd, rfl⟩ := RL_at hx
      have hi : i < l.length := by rw [← hT.1]; exact hbd
      have hp := hT.2 i hi
      have hok : ∀ p, p = l.getD i default → 0 ≤ p.1 ∧ p.1 ≤ 48 ∧ 0 ≤ p.2.1 ∧ p.2.1 < p.2.2 ∧ p.2.2 ≤ 24 := fun p e => by
        have e1 : l.getD i default = l[i] := by simp [List.getD, hi]
        rw [e, e1]
        exact hl.ok _ (List.getElem_mem hi)
      have hnw := span_new hl.nd hi
      have hlt := hlt hi
      have hnx : i + 1 < l.length → LtL (l.getD i default) (l.getD (i + 1) default) = true := fun h => srt_lt hl (Nat.lt_succ_self i) h
      have etk : (l.take (i + 1)) = l.take i ++ [l.getD i default] := by
        rw [List.take_succ_eq_append_getElem hi]
        simp [List.getD, hi]
      rw [etk]
      generalize l.getD i default = p at hp hok hnw hlt hnx
      have hok := hok p rfl
      have hp1 := s _ _ hp
      refine ⟨_, rfl, _, p, rfl, hp1, hok, ?_⟩
      rintro v2 H2 s2 rfl
      refine ⟨_, rfl, iteF ?_⟩
      refine ⟨_, rfl, _, rfl, _, _, [p.1, p.2.1, p.2.2], [q.1, q.2.1, q.2.2], rfl, rfl, SqT.of (s2 _ _ hp1), SqT.of (s2 _ _ hb1), false, congrArg V.bl (lexAt_no hlt), iteF ?_⟩
      have hv : valV ((l.take i).map fun p => (skey (span p), V.bl true)) (skey (span p)) = none := valV_none fun z => by
        obtain ⟨e, he, e2⟩ := List.mem_map.mp z
        obtain ⟨p', hp', rfl⟩ := List.mem_map.mp he
        exact hnw (List.mem_map.mpr ⟨p', hp', skey_inj e2⟩)
      refine ⟨_, rfl, _, rfl, _, _, rfl, SqT.of (s2 _ _ hp1), sl3, fun p1 hp1n => ?_⟩
      have s3 := same_upd (s.trans s2) (o := .tup (cutV [.int p.1, .int p.2.1, .int p.2.2] (some 1) none)) ((s.trans s2).free hp1n)
      have w3 := same_new hp1n (o := .tup (cutV [.int p.1, .int p.2.1, .int p.2.2] (some 1) none))
      have hd3 := w3 _ _ (s2 _ _ hd1)
      refine ⟨_, rfl, d, _, rfl, DGet.t (k := skey (span p)) hd3 (by rw [upd_same, cut3]; rfl), _, rfl, ?_⟩
      rw [hv]
      refine iteF ?_
      have hp3 := w3 _ _ (s2 _ _ hp1)
      refine ⟨_, rfl, _, rfl, _, rfl, _, _, rfl, SqT.of hp3, sl3, fun p2 hp2n => ?_⟩
      have w4 := same_new hp2n (o := .tup (cutV [.int p.1, .int p.2.1, .int p.2.2] (some 1) none))
      refine ⟨d, _, rfl, .inr ⟨_, skey (span p), p2, w4 _ _ hd3, rfl, by rw [upd_same, cut3]; rfl, bigS _ (by simp; omega), rfl⟩, ?_⟩
      rw [putK_new _ hv]
      have hdn : d ≠ ts.getD i 0 := fun z => by
        rw [← z] at hp3
        have hp4 := hd3.symm.trans hp3
        cases hp4
      refine ⟨_, rfl, _, _, p, rfl, same_upd (same_upd s3 (s3.free hp2n)) hd, ?_, ?_, hnx⟩
      · rw [upd_same, List.map_append]
        rfl
      · exact (upd_ne hdn.symm).trans (w4 _ _ hp3)
    · rintro σ H1 ⟨v, b, q, rfl, s, _⟩
      exact k _ _ s rfl
def sp_need_ranked : Sp := fun vs H Q _ => ∃ (a : Addr) (l : List I3), vs = [.ref a] ∧ T3 H a l ∧ NearOk l ∧ Ret (fun v _ => v = .non) H Q
abbrev sc_need_ranked_N : List Str := ["thing"]
theorem sc_need_ranked : FnScope sc_need_ranked_N ["thing"] (defScope s_need_ranked) := ⟨rfl, rfl, rfl, by decide +kernel, rfl, by decide +kernel, by decide +kernel⟩
theorem ok_need_ranked {P : Program} {w : World} {K : PySem.W.Frag} {mg : Str → Option Value} {base : Heap} (T : Tx K mg) : Fn P w K mg base "need_ranked" ["thing"] (5) sp_need_ranked := by
  obtain ⟨fd, F⟩ := T.D_need_ranked
  refine ⟨_, fd, T.g_need_ranked, F.kp, F.bindsN (fun _ _ _ _ _ _ us hl => match us, hl with | [_], _ => rfl), F.ok sc_need_ranked (fun vs H Q E h => ?_) (fun cdv A outer s H vs Q E hr h => ?_)⟩
  · (obtain ⟨a, l, rfl, ha, hl, k⟩ := h)
    rfl
  · (obtain ⟨a, l, rfl, ha, hl, k⟩ := h)
    refine ⟨_, PSs.nox (pss_one (ps_if (pt_not (pt_val (pe_fn (ok_is_ranked T) (hr.mono (by decide)) (pa_cons (pv 0) pa_nil)))) (pss_one ps_never) pss_nil)), ?_⟩
    refine ⟨_, rfl, a, l, rfl, ha, hl, ?_⟩
    rintro v H1 s1 rfl
    exact ⟨_, rfl, iteF (k _ _ s1 rfl)⟩
end Pt
end
section
set_option maxRecDepth 100000
set_option maxHeartbeats 4000000
namespace Pt
open PySem PySem.Spec PyProof.Rows L2
def RsAt (H : Hp) (ts : List Addr) (rs : List (List Int)) : Prop := ts.length = rs.length ∧ ∀ i, i < rs.length → TupI H (ts.getD i 0) (rs.getD i [])
def RowsI (H : Hp) (a : Addr) (rs : List (List Int)) : Prop := ∃ ts, H a = some (.lst (RL ts)) ∧ RsAt H ts rs
theorem RsAt.mono {H H' : Hp} {ts : List Addr} {rs : List (List Int)} (s : Same H H') (h : RsAt H ts rs) : RsAt H' ts rs := ⟨h.1, fun i hi => s _ _ (h.2 i hi)⟩
theorem RowsI.mono {H H' : Hp} {a : Addr} {rs : List (List Int)} (s : Same H H') (h : RowsI H a rs) : RowsI H' a rs := let ⟨ts, h1, h2⟩ := h; ⟨ts, s _ _ h1, h2.mono s⟩
theorem RsAt.snoc {H : Hp} {ts : List Addr} {rs : List (List Int)} {t : Addr} {r : List Int} (h : RsAt H ts rs) (ht : TupI H t r) : RsAt H (ts ++ [t]) (rs ++ [r]) := by
  refine ⟨by simp [h.1], fun i hi => ?_⟩
  rw [getD_snoc, getD_snoc, h.1]
  by_cases c : i < rs.length
  · rw [if_pos c, if_pos c]; exact h.2 i c
  · have : i = rs.length := by simp at hi; omega
    rw [if_neg c, if_neg c, if_pos this, if_pos this]
    exact ht
def rkK (l : List I3) (qs : List Addr) : List (List Key × V) := List.zipWith (fun p q => (skey (span p), V.ref q)) l qs
def RkAt (H : Hp) (d : Addr) (l : List I3) : Prop := ∃ qs : List Addr, qs.length = l.length ∧ H d = some (.dT (rkK l qs)) ∧ ∀ i, i < l.length → H (qs.getD i 0) = some (.tup [.int (l.getD i default).1, .int i])
theorem rkK_get : ∀ (l : List I3) (qs : List Addr) (s : Spn), qs.length = l.length → valV (rkK l qs) (skey s) = if s ∈ spans l then some (.ref (qs.getD ((spans l).idxOf s) 0)) else none
  | [], qs, s, h => rfl
  | p :: l, [], s, h => by simp at h
  | p :: l, q :: qs, s, h => by
    have ih := rkK_get l qs s (by simpa using h)
    by_cases e : span p = s
    · have : valV (rkK (p :: l) (q :: qs)) (skey s) = some (.ref q) := valV_pos (p := (skey (span p), V.ref q)) (by rw [e])
      rw [this, if_pos (by simp [spans, e])]
      simp [spans, e]
    · have : valV (rkK (p :: l) (q :: qs)) (skey s) = valV (rkK l qs) (skey s) := valV_neg (p := (skey (span p), V.ref q)) (fun z => e (skey_inj z))
      rw [this, ih]
      have e' : (span p == s) = false := by simpa using e
      by_cases m : s ∈ spans l
      · have m2 : s ∈ spans (p :: l) := List.mem_cons_of_mem _ m
        rw [if_pos m, if_pos m2]
        simp [spans, List.idxOf_cons, e']
      · have m2 : ¬ s ∈ spans (p :: l) := fun z => (List.mem_cons.mp z).elim (fun q => e q.symm) m
        rw [if_neg m, if_neg m2]
theorem rkK_snoc {l : List I3} {qs : List Addr} {p : I3} {q : Addr} (h : qs.length = l.length) : rkK l qs ++ [(skey (span p), V.ref q)] = rkK (l ++ [p]) (qs ++ [q]) := by
  unfold rkK
  rw [List.zipWith_append h.symm]
  rfl
def sp_ranks_of : Sp := fun vs H Q _ => ∃ (a : Addr) (l : List I3), vs = [.ref a] ∧ T3 H a l ∧ NearOk l ∧ Ret (fun v H' => ∃ d, v = .ref d ∧ H d = none ∧ RkAt H' d l) H Q
abbrev sc_ranks_of_N : List Str := ["rows", "found", "rank", "cost", "begin", "end"]
theorem sc_ranks_of : FnScope sc_ranks_of_N ["rows"] (defScope s_ranks_of) := ⟨rfl, rfl, rfl, by decide +kernel, rfl, by decide +kernel, by decide +kernel⟩
theorem ok_ranks_of {P : Program} {w : World} {K : PySem.W.Frag} {mg : Str → Option Value} {base : Heap} (T : Tx K mg) : Fn P w K mg base "ranks_of" ["rows"] (1) sp_ranks_of := by
  obtain ⟨fd, F⟩ := T.D_ranks_of
  refine ⟨_, fd, T.g_ranks_of, F.kp, F.bindsN (fun _ _ _ _ _ _ us hl => match us, hl with | [_], _ => rfl), F.ok sc_ranks_of (fun vs H Q E h => ?_) (fun cdv A outer s H vs Q E hr h => ?_)⟩
  · (obtain ⟨a, l, rfl, ⟨ts, ha, hT⟩, hl, k⟩ := h)
    rfl
  · (obtain ⟨a, l, rfl, ⟨ts, ha, hT⟩, hl, k⟩ := h)
    refine ⟨_, PSs.nox (pss_cons (ps_set (i := 1) sc_ranks_of.nd rfl (Or.inl rfl) pe_dnewT)
      (pss_cons (ps_for PassesOwn.never rfl (pi_enum (by rfl) T.z_enumerate (pa_cons (pv 0) pa_nil)) (pg_tup rfl (pgs_cons (pg_name (i := 2) sc_ranks_of.nd rfl (Or.inl rfl)) (pgs_cons (pg_tup rfl (pgs_cons (pg_name (i := 3) sc_ranks_of.nd rfl (Or.inl rfl)) (pgs_cons (pg_name (i := 4) sc_ranks_of.nd rfl (Or.inl rfl)) (pgs_cons (pg_name (i := 5) sc_ranks_of.nd rfl (Or.inl rfl)) pgs_nil)))) pgs_nil)))
      (pss_one (ps_dput (hu_of hr) (pv 1) (pe_tup (pa_cons (pv 4) (pa_cons (pv 5) pa_nil))) (pe_tup (pa_cons (pv 3) (pa_cons (pv 2) pa_nil))) rfl)))
      (pss_one (ps_ret (pv 1))))), ?_⟩
    have few := hl.few
    refine fun d hd => ?_
    refine ⟨_, rfl, a, _, rfl, SqL.of ((same_new hd) _ _ ha), for_it (walk_enum (xs := RL ts)) (fun i σ H' => ∃ (v1 v2 v3 v4 : Option V) (qs : List Addr), σ = [some (.ref a), some (.ref d), v1, v2, v3, v4] ∧ Same H H' ∧ qs.length = i ∧ H' d = some (.dT (rkK (l.take i) qs)) ∧ ∀ j, j < i → H' (qs.getD j 0) = some (.tup [.int (l.getD j default).1, .int j]))
      ⟨none, none, none, none, [], rfl, same_new hd, rfl, upd_same, fun j hj => absurd hj (Nat.not_lt_zero _)⟩ (fun i σ H' _ ⟨_, _, _, _, _, _, s, _⟩ => SqL.of (s _ _ ha)) ?_ ?_⟩
    · rintro i x σ H1 H2 hi ⟨v1, v2, v3, v4, qs, rfl, s, hq, hD, hQ⟩ ⟨Tp, y, z, rfl, hTp, rfl, e1, e2⟩
      obtain ⟨hb, rfl⟩ := RL_at e2
      cases e1
      have hil : i < l.length := by rw [← hT.1]; exact hb
      have hp := hT.2 i hil
      have hnw := span_new hl.nd hil
      have etk : (l.take (i + 1)) = l.take i ++ [l.getD i default] := by
        rw [List.take_succ_eq_append_getElem hil]
        simp [List.getD, hil]
      have ltk : qs.length = (l.take i).length := by rw [List.length_take]; omega
      rw [etk]
      have w1 := same_new hTp (o := .tup [.int i, .ref (ts.getD i 0)])
      have s1 := same_upd s (s.free hTp) (o := .tup [.int i, .ref (ts.getD i 0)])
      obtain ⟨p, hpe⟩ : ∃ p, p = l.getD i default := ⟨_, rfl⟩
      rw [← hpe] at hp hnw ⊢
      refine ⟨Tp, _, rfl, SqT.of upd_same, rfl, _, _, rfl, _, _, rfl, ⟨_, _, rfl, SqT.of (s1 _ _ hp), rfl, _, _, rfl, _, _, rfl, _, _, rfl, rfl, rfl, ?_⟩⟩
      refine ⟨_, rfl, _, rfl, (by show 2 ≤ sizeLine; decide), fun q hqn => ?_⟩
      have w2 := w1.trans (same_new hqn (o := .tup [.int p.1, .int i]))
      have s2 := same_upd s1 (s1.free hqn) (o := .tup [.int p.1, .int i])
      refine ⟨_, rfl, _, rfl, _, rfl, (by show 2 ≤ sizeLine; decide), fun kk hkn => ?_⟩
      have w4 := same_new hkn (o := .tup [.int p.2.1, .int p.2.2])
      have w3 := w2.trans w4
      have s3 := same_upd s2 (s2.free hkn) (o := .tup [.int p.2.1, .int p.2.2])
      have hD3 := w3 _ _ hD
      have hv : valV (rkK (l.take i) qs) (skey (span p)) = none := by rw [rkK_get _ _ _ ltk, if_neg hnw]
      refine ⟨d, _, rfl, .inr ⟨_, skey (span p), kk, hD3, rfl, upd_same, bigS _ (by simp [rkK]; omega), rfl⟩, ?_⟩
      rw [putK_new _ hv, rkK_snoc ltk]
      refine ⟨_, _, _, _, qs ++ [q], rfl, same_upd s3 hd, by simp; omega, upd_same, fun j hj => ?_⟩
      have hne : ∀ {t : Addr} {xs : List V} {H' : Hp}, H' d = some (.dT (rkK (l.take i) qs)) → H' t = some (.tup xs) → t ≠ d := fun e1 e2 z => by subst z; rw [e1] at e2; cases e2
      rw [getD_snoc, hq]
      by_cases c : j < i
      · rw [if_pos c]
        have q3 := w3 _ _ (hQ j c)
        rw [upd_ne (hne hD3 q3)]
        exact q3
      · have : j = i := by omega
        subst this
        rw [if_neg c, if_pos rfl, ← hpe]
        have q3 := w4 _ _ (upd_same (a := q) (o := .tup [.int p.1, .int j]))
        rw [upd_ne (hne hD3 q3)]
        exact q3
    · rintro σ H1 ⟨v1, v2, v3, v4, qs, rfl, s, hq, hD, hQ⟩
      rw [RL_len, hT.1] at hq hD hQ
      rw [List.take_length] at hD
      exact ⟨_, rfl, k _ _ s ⟨d, rfl, hd, qs, hq, hD, hQ⟩⟩
end Pt
end
section
set_option maxRecDepth 100000
set_option maxHeartbeats 4000000
namespace Pt
open PySem PySem.Spec PyProof.Rows L2
theorem nc_f {l : List Spn} {x : Spn} (h : x ∈ l) : (!l.contains x) = false := by simpa using h
theorem nc_t {l : List Spn} {x : Spn} (h : ¬ x ∈ l) : (!l.contains x) = true := by simpa using h
theorem rkK_at {l : List I3} {qs : List Addr} {i : Nat} {kv : List Key × V} (h : (rkK l qs)[i]? = some kv) : i < l.length ∧ i < qs.length ∧ kv = (skey (span (l.getD i default)), V.ref (qs.getD i 0)) := by
  unfold rkK at h
  rw [List.getElem?_zipWith] at h
  cases h1 : l[i]? with
  | none => rw [h1] at h; simp at h
  | some p =>
    cases h2 : qs[i]? with
    | none => rw [h1, h2] at h; simp at h
    | some q =>
      rw [h1, h2] at h
      have hi := (List.getElem?_eq_some_iff.mp h1).1
      have hj := (List.getElem?_eq_some_iff.mp h2).1
      refine ⟨hi, hj, ?_⟩
      simp only [List.getD_eq_getElem?_getD, h1, h2, Option.getD_some]
      exact (Option.some.inj h).symm
theorem pair_shaped (x y : Int) : SeqAt.shaped (.tuple [.int x, .int y]) = true := by rfl
theorem pair_eqv (x y z w : Int) : PyData.eqv (.tuple [.int x, .int y]) (.tuple [.int z, .int w]) = (decide (x = z) && decide (y = w)) := by
  simp only [PyData.eqv, PyData.eqvAll, Bool.and_true]
  rfl
theorem rkK_len {l : List I3} {qs : List Addr} (h : qs.length = l.length) : (rkK l qs).length = l.length := by simp [rkK, h]
theorem self_range (l : List I3) : (List.range l.length).map (fun i => l.getD i default) = l := by
  refine List.ext_getElem (by simp) fun i h1 h2 => ?_
  simp [List.getD, h2]
theorem filt_ts {H : Hp} {ts : List Addr} {l : List I3} (h : TsAt H ts l) (f : I3 → Bool) : ∃ us, ((List.range l.length).filter (fun i => f (l.getD i default))).map (fun i => V.ref (ts.getD i 0)) = RL us ∧ TsAt H us (l.filter f) := by
  refine ⟨((List.range l.length).filter (fun i => f (l.getD i default))).map (fun i => ts.getD i 0), by simp [RL], ?_⟩
  have e : l.filter f = ((List.range l.length).filter (fun i => f (l.getD i default))).map (fun i => l.getD i default) := by
    have := List.filter_map (f := fun i => l.getD i default) (p := f) (l := List.range l.length)
    rw [self_range] at this
    rw [this]
    rfl
  rw [e]
  refine ⟨by simp, fun i hi => ?_⟩
  have hi' : i < ((List.range l.length).filter (fun i => f (l.getD i default))).length := by simpa using hi
  have hm : ((List.range l.length).filter (fun i => f (l.getD i default)))[i] < l.length := List.mem_range.mp (List.mem_filter.mp (List.getElem_mem hi')).1
  have e1 : (((List.range l.length).filter (fun i => f (l.getD i default))).map (fun i => ts.getD i 0)).getD i 0 = ts.getD ((List.range l.length).filter (fun i => f (l.getD i default)))[i] 0 := by
    rw [List.getD_eq_getElem?_getD, List.getElem?_map, List.getElem?_eq_getElem hi']
    rfl
  have e2 : (((List.range l.length).filter (fun i => f (l.getD i default))).map (fun i => l.getD i default)).getD i default = l.getD ((List.range l.length).filter (fun i => f (l.getD i default)))[i] default := by
    rw [List.getD_eq_getElem?_getD, List.getElem?_map, List.getElem?_eq_getElem hi']
    rfl
  rw [e1, e2]
  exact h.2 _ hm
theorem RkAt.mono {H H' : Hp} {d : Addr} {l : List I3} (s : Same H H') (h : RkAt H d l) : RkAt H' d l := let ⟨qs, h1, h2, h3⟩ := h; ⟨qs, h1, s _ _ h2, fun i hi => s _ _ (h3 i hi)⟩
theorem walk_itemsT {d : Addr} {o : Obj} {kvs : List (List Key × V)} : Walk (Itit d o kvs) kvs.length (fun H => H d = some (.frz o (.dT kvs))) (fun i H x H' => ∃ (Tp q : Addr) (k : List Key) (v : V), kvs[i]? = some (k, v) ∧ H q = some (.tup (k.map kV)) ∧ x = .ref Tp ∧ H Tp = none ∧ H' = upd H Tp (.tup [.ref q, v])) :=
  ⟨fun i H hi h => ⟨h, hi⟩, fun H h => ⟨h, Nat.le_refl _⟩, fun i H x H' _ _ y => y⟩
def NewsAt (H : Hp) (r c w m : Addr) (A B : List I3) : Prop := H r = some (.tup [.ref c, .ref w, .ref m]) ∧ T3 H c (cameL A B) ∧ T3 H w (cameL B A) ∧ RowsI H m (movedL A B B.length)
theorem NewsAt.mono {H H' : Hp} {r c w m : Addr} {A B : List I3} (s : Same H H') (h : NewsAt H r c w m A B) : NewsAt H' r c w m A B := ⟨s _ _ h.1, h.2.1.mono s, h.2.2.1.mono s, h.2.2.2.mono s⟩
def sp_difference : Sp := fun vs H Q _ => ∃ (a b : Addr) (A B : List I3), vs = [.ref a, .ref b] ∧ T3 H a A ∧ T3 H b B ∧ NearOk A ∧ NearOk B ∧ Ret (fun v H' => ∃ r c w m, v = .ref r ∧ NewsAt H' r c w m A B ∧ H c = none ∧ H w = none ∧ H m = none ∧ c ≠ w ∧ c ≠ m ∧ w ≠ m) H Q
abbrev sc_difference_N : List Str := ["ahead", "behind", "elder", "newer", "came", "went", "moved", "span", "cost", "rank", "row"]
theorem sc_difference : FnScope sc_difference_N ["ahead", "behind"] (defScope s_difference) := ⟨rfl, rfl, rfl, by decide +kernel, rfl, by decide +kernel, by decide +kernel⟩
theorem ok_difference {P : Program} {w : World} {K : PySem.W.Frag} {mg : Str → Option Value} {base : Heap} (T : Tx K mg) : Fn P w K mg base "difference" ["ahead", "behind"] (2) sp_difference := by
  obtain ⟨fd, F⟩ := T.D_difference
  refine ⟨_, fd, T.g_difference, F.kp, F.bindsN (fun _ _ _ _ _ _ us hl => match us, hl with | [_, _], _ => rfl), F.ok sc_difference (fun vs H Q E h => ?_) (fun cdv A outer s H vs Q E hr h => ?_)⟩
  · (obtain ⟨a, b, A, B, rfl, ha, hb, hA, hB, k⟩ := h)
    rfl
  · (obtain ⟨a, b, A, B, rfl, ha, hb, hA, hB, k⟩ := h)
    refine ⟨_, PSs.nox (pss_cons (ps_set (i := 2) sc_difference.nd rfl (Or.inr rfl) (pe_fn (ok_ranks_of T) (hr.mono (by decide)) (pa_cons (pv 0) pa_nil)))
      (pss_cons (ps_set (i := 3) sc_difference.nd rfl (Or.inr rfl) (pe_fn (ok_ranks_of T) (hr.mono (by decide)) (pa_cons (pv 1) pa_nil)))
      (pss_cons (ps_setLc (i := 4) (own := [("row", 10)]) rfl sc_difference.nd rfl rfl (sw_true rfl rfl rfl (by decide +kernel)) (pi_list (pv 1)) (blkOk_by (N := sc_difference_N) (sc := defScope s_difference) (by decide +kernel)) (fun _ _ _ _ _ => (pg_name (i := 10) sc_difference.nd rfl (Or.inl rfl))) (fun _ _ _ _ _ => (pts_one (pt_cmp (pc_dnotin (hu_of hr) (pe_slice (sl_tupK (K := K) rfl) (pv 10) (po_some pe_int) po_none) (pv 2))))) (fun _ _ _ _ _ => (pv 10)))
      (pss_cons (ps_setLc (i := 5) (own := [("row", 10)]) rfl sc_difference.nd rfl rfl (sw_true rfl rfl rfl (by decide +kernel)) (pi_list (pv 0)) (blkOk_by (N := sc_difference_N) (sc := defScope s_difference) (by decide +kernel)) (fun _ _ _ _ _ => (pg_name (i := 10) sc_difference.nd rfl (Or.inl rfl))) (fun _ _ _ _ _ => (pts_one (pt_cmp (pc_dnotin (hu_of hr) (pe_slice (sl_tupK (K := K) rfl) (pv 10) (po_some pe_int) po_none) (pv 3))))) (fun _ _ _ _ _ => (pv 10)))
      (pss_cons (ps_set (i := 6) sc_difference.nd rfl (Or.inl rfl) (pe_lst pa_nil))
      (pss_cons (ps_lock (ps_for PassesOwn.never rfl (pi_itemsT (pv 3)) (pg_tup rfl (pgs_cons (pg_name (i := 7) sc_difference.nd rfl (Or.inl rfl)) (pgs_cons (pg_tup rfl (pgs_cons (pg_name (i := 8) sc_difference.nd rfl (Or.inl rfl)) (pgs_cons (pg_name (i := 9) sc_difference.nd rfl (Or.inl rfl)) pgs_nil))) pgs_nil)))
      (pss_one (ps_if (PW.pt (pw_and (pt_cmp (pc_din (hu_of hr) (pv 7) (pv 2))) (pw_and1 (pt_cmpR (op_neD hr.units) (pe_dget (hu_of hr) (pv 2) (pv 7) (fun _ _ => rfl)) (pe_tup (pa_cons (pv 8) (pa_cons (pv 9) pa_nil))) (nomark _))))) (pss_one (ps_expr (pe_bm PySem.F.plainAttrs_list PySem.F.slot_list_append PySem.F.type_list_append mt_append (pv 6) (pa_cons (pe_tup (pa_cons (pe_ix ix_tup (pv 7) pe_int (fun _ _ => rfl)) (pa_cons (pe_ix ix_tup (pv 7) pe_int (fun _ _ => rfl)) (pa_cons (pe_ix ix_tup (pe_dget (hu_of hr) (pv 2) (pv 7) (fun _ _ => rfl)) pe_int (fun _ _ => rfl)) (pa_cons (pv 8) (pa_cons (pe_ix ix_tup (pe_dget (hu_of hr) (pv 2) (pv 7) (fun _ _ => rfl)) pe_int (fun _ _ => rfl)) (pa_cons (pv 9) pa_nil))))))) pa_nil)))) pss_nil))))
      (pss_one (ps_ret (pe_tup (pa_cons (pv 4) (pa_cons (pv 5) (pa_cons (pv 6) pa_nil)))))))))))), ?_⟩
    have fA := hA.few
    have fB := hB.few
    refine ⟨_, rfl, a, A, rfl, ha, hA, ?_⟩
    rintro v1 H1 s1 ⟨d1, rfl, hd1, hR1⟩
    refine ⟨_, rfl, b, B, rfl, hb.mono s1, hB, ?_⟩
    rintro v2 H2 s2 ⟨d2, rfl, hd2, hR2⟩
    have n12 : d1 ≠ d2 := by
      obtain ⟨_, _, z, _⟩ := id hR1
      exact ne_of_none z hd2
    have s12 := s1.trans s2
    have hR1 := hR1.mono s2
    obtain ⟨qa, lqa, hda, hqa⟩ := id hR1
    obtain ⟨qb, lqb, hdb, hqb⟩ := id hR2
    obtain ⟨ta, hta, hTa⟩ := ha.mono s12
    obtain ⟨tb, htb, hTb⟩ := hb.mono s12
    -- came
    refine ⟨_, rfl, b, rfl, ⟨_, SqL.of htb⟩, fun c hc => lcF (walk_list (xs := RL tb)) (by rw [RL_len, hTb.1]; omega) hc (fun i => !(spans A).contains (span (B.getD i default))) (fun i => .ref (tb.getD i 0)) (fun H' s => SqL.of (s _ _ htb)) ?_ ?_⟩
    · rintro i x H3 H4 Qt Qf hi s ⟨rfl, hx⟩ kt kf
      obtain ⟨hbd, rfl⟩ := RL_at hx
      have hp := s _ _ (hTb.2 i (by rw [← hTb.1]; exact hbd))
      refine ⟨rfl, _, rfl, _, rfl, _, _, rfl, SqT.of hp, sl3, fun p hpn => ?_⟩
      have w1 := same_new hpn (o := .tup (cutV [.int (B.getD i default).1, .int (B.getD i default).2.1, .int (B.getD i default).2.2] (some 1) none))
      refine ⟨_, rfl, d1, _, rfl, DGet.t (k := skey (span (B.getD i default))) (w1 _ _ (s _ _ hda)) (by rw [upd_same, cut3]; rfl), _, rfl, ?_⟩
      rw [rkK_get _ _ _ lqa]
      by_cases e : span (B.getD i default) ∈ spans A
      · rw [if_pos e]
        exact iteF (kf _ w1 (nc_f e))
      · rw [if_neg e]
        exact iteT ⟨_, rfl, kt _ w1 (nc_t e)⟩
    intro H3 s3 hc3
    rw [RL_len, hTb.1] at hc3
    obtain ⟨uc, ec, hUc⟩ := filt_ts (hTb.mono s3) (fun p => !(spans A).contains (span p))
    rw [ec] at hc3
    have hC3 : T3 H3 c (cameL A B) := ⟨uc, hc3, hUc⟩
    -- went
    refine ⟨_, rfl, a, rfl, ⟨_, SqL.of (s3 _ _ hta)⟩, fun w hw => lcF (walk_list (xs := RL ta)) (by rw [RL_len, hTa.1]; omega) hw (fun i => !(spans B).contains (span (A.getD i default))) (fun i => .ref (ta.getD i 0)) (fun H' s => SqL.of (s _ _ (s3 _ _ hta))) ?_ ?_⟩
    · rintro i x H4 H5 Qt Qf hi s ⟨rfl, hx⟩ kt kf
      obtain ⟨hbd, rfl⟩ := RL_at hx
      have hp := s _ _ (s3 _ _ (hTa.2 i (by rw [← hTa.1]; exact hbd)))
      refine ⟨rfl, _, rfl, _, rfl, _, _, rfl, SqT.of hp, sl3, fun p hpn => ?_⟩
      have w1 := same_new hpn (o := .tup (cutV [.int (A.getD i default).1, .int (A.getD i default).2.1, .int (A.getD i default).2.2] (some 1) none))
      refine ⟨_, rfl, d2, _, rfl, DGet.t (k := skey (span (A.getD i default))) (w1 _ _ (s _ _ (s3 _ _ hdb))) (by rw [upd_same, cut3]; rfl), _, rfl, ?_⟩
      rw [rkK_get _ _ _ lqb]
      by_cases e : span (A.getD i default) ∈ spans B
      · rw [if_pos e]
        exact iteF (kf _ w1 (nc_f e))
      · rw [if_neg e]
        exact iteT ⟨_, rfl, kt _ w1 (nc_t e)⟩
    intro H4 s4 hw4
    rw [RL_len, hTa.1] at hw4
    obtain ⟨uw, ew, hUw⟩ := filt_ts ((hTa.mono s3).mono s4) (fun p => !(spans B).contains (span p))
    rw [ew] at hw4
    have hW4 : T3 H4 w (cameL B A) := ⟨uw, hw4, hUw⟩
    have hC4 := hC3.mono s4
    have s14 := s12.trans (s3.trans s4)
    have hc0 : H c = none := s12.free hc
    have hw0 : H w = none := (s12.trans s3).free hw
    have ncw : c ≠ w := ne_of_none hc3 hw
    refine ⟨Nat.zero_le _, fun m hm => ?_⟩
    have hm0 : H m = none := s14.free hm
    have ncm : c ≠ m := ne_of_none (s4 _ _ hc3) hm
    have nwm : w ≠ m := ne_of_none hw4 hm
    have w5 := same_new hm (o := .lst [])
    have hdb5 := w5 _ _ (s4 _ _ (s3 _ _ hdb))
    dsimp only
    refine ⟨d2, _, hdb5, trivial, fun od => ?_⟩
    have s24 := s3.trans s4
    have hda4 := s24 _ _ hda
    have hdb4 := s24 _ _ hdb
    have nmd : m ≠ d2 := (ne_of_none hdb4 hm).symm
    have hH4m : H4 m = none := hm
    have htup : ∀ {t : Addr} {xs : List V}, H4 t = some (.tup xs) → hide d2 H4 t = some (.tup xs) := fun e => hide_ne hdb4 e (fun z => by cases z)
    refine ⟨_, rfl, d2, od, rkK B qb, rfl, upd_same, for_it walk_itemsT (fun i σ H' => ∃ (v7 v8 v9 : Option V) (ts : List Addr), σ = [some (.ref a), some (.ref b), some (.ref d1), some (.ref d2), some (.ref c), some (.ref w), some (.ref m), v7, v8, v9, none] ∧ H' d2 = some (.frz od (.dT (rkK B qb))) ∧ Same (hide d2 H4) H' ∧ H' m = some (.lst (RL ts)) ∧ RsAt H' ts (movedL A B i))
      ⟨none, none, none, [], rfl, upd_same, ?_, ?_, rfl, fun i hi => absurd hi (Nat.not_lt_zero _)⟩ (fun i σ H' _ ⟨_, _, _, _, _, h, _⟩ => h) ?_ ?_⟩
    · intro y o e
      rw [upd_ne (of_hide e).2]
      exact w5 y o (of_hide e).1
    · rw [upd_ne nmd, upd_same]
      rfl
    · rintro i x σ H6 H7 hi ⟨v7, v8, v9, ts, rfl, hz, s, hM, hR⟩ ⟨Tp, q, key, v, hkv, hq, rfl, hTp, rfl⟩
      obtain ⟨hiB, hiq, e⟩ := rkK_at hkv
      cases e
      have w7 := same_new hTp (o := .tup [.ref q, .ref (qb.getD i 0)])
      have hqi := w7 _ _ (s _ _ (htup (s24 _ _ (hqb i hiB))))
      have hq7 := w7 _ _ hq
      have hM7 := w7 _ _ hM
      have hz7 := w7 _ _ hz
      have hda7 := w7 _ _ (s _ _ (hide_of hda4 n12))
      have s7 : Same (hide d2 H4) _ := s.trans w7
      have hmh : hide d2 H4 m = none := by unfold hide; rw [if_neg nmd]; exact hH4m
      obtain ⟨p, hpe⟩ : ∃ p, p = B.getD i default := ⟨_, rfl⟩
      rw [← hpe] at hqi hq7 hkv
      have hlen : ts.length ≤ i := by rw [hR.1]; exact movedL_len _ _ _
      refine ⟨Tp, _, rfl, SqT.of upd_same, rfl, _, _, rfl, _, _, rfl, ⟨_, _, rfl, SqT.of hqi, rfl, _, _, rfl, _, _, rfl, rfl, rfl, ?_⟩⟩
      rw [movedL_succ, ← hpe]
      refine ⟨_, rfl, _, rfl, d1, _, rfl, DGet.t (k := skey (span p)) hda7 hq7, _, rfl, ?_⟩
      have hg := rkK_get A qa (span p) lqa
      by_cases e : span p ∈ spans A
      · rw [if_pos e] at hg
        rw [hg]
        refine iteT ?_
        have hj : (spans A).idxOf (span p) < A.length := by
          have := List.idxOf_lt_length_iff.mpr e
          simpa using this
        have hqj := w7 _ _ (s _ _ (htup (s24 _ _ (hqa _ hj))))
        obtain ⟨j, hje⟩ : ∃ j, j = (spans A).idxOf (span p) := ⟨_, rfl⟩
        obtain ⟨c0, hce⟩ : ∃ c0, c0 = (A.getD j default).1 := ⟨_, rfl⟩
        rw [← hje] at hqj hg
        rw [← hce] at hqj
        have hmv : movedAt A p i = if c0 = p.1 ∧ j = i then none else some [p.2.1, p.2.2, c0, p.1, (j : Int), (i : Int)] := by
          unfold movedAt
          simp only [if_pos e, ← hje, ← hce]
        refine ⟨_, rfl, _, rfl, d1, _, rfl, hg ▸ DGet.t (k := skey (span p)) hda7 hq7, _, rfl, _, rfl, (by show 2 ≤ sizeLine; decide), fun t1 ht1 => ?_⟩
        have w8 := same_new ht1 (o := .tup [.int p.1, .int i])
        refine ⟨.tuple [.int c0, .int j], .tuple [.int p.1, .int i], .tup (SqT.of (w8 _ _ hqj)) (.cons (.int _) (.cons (.int _) .nil)), .tup (SqT.of upd_same) (.cons (.int _) (.cons (.int _) .nil)), pair_shaped _ _, pair_shaped _ _, _, rfl, ?_⟩
        rw [pair_eqv, hmv]
        have s8 := s7.trans w8
        have hz8 := w8 _ _ hz7
        have hM8 := w8 _ _ hM7
        have hR8 := (hR.mono w7).mono w8
        by_cases e2 : c0 = p.1 ∧ j = i
        · rw [if_pos e2, decide_eq_true e2.1, decide_eq_true (show (j : Int) = i by rw [e2.2])]
          refine iteF ⟨_, _, _, ts, rfl, hz8, s8, hM8, ?_⟩
          simpa using hR8
        · rw [if_neg e2]
          have eb : (!(decide (c0 = p.1) && decide ((j : Int) = i))) = true := by
            by_cases e3 : c0 = p.1
            · have : ¬ (j : Int) = i := fun z => e2 ⟨e3, by omega⟩
              rw [decide_eq_false this]
              simp
            · rw [decide_eq_false e3]
              rfl
          rw [eb]
          refine iteT ?_
          have hq8 := w8 _ _ hq7
          have hda8 := w8 _ _ hda7
          have hqj8 := w8 _ _ hqj
          have dg := hg ▸ DGet.t (k := skey (span p)) hda8 hq8
          refine ⟨_, rfl, .inl ⟨rfl, _, SqL.of hM8⟩, _, rfl, _, _, _, _, rfl, rfl, SqT.of hq8, at0, _, rfl, _, _, _, _, rfl, rfl, SqT.of hq8, at1, _, rfl, _, rfl, d1, _, rfl, dg, _, _, _, _, rfl, rfl, SqT.of hqj8, at0, _, rfl, _, rfl, _, rfl, d1, _, rfl, dg, _, _, _, _, rfl, rfl, SqT.of hqj8, at1, _, rfl, (by show 6 ≤ sizeLine; decide), fun t2 ht2 => ?_⟩
          have w9 := same_new ht2 (o := .tup [.int p.2.1, .int p.2.2, .int c0, .int p.1, .int j, .int i])
          have hM9 := w9 _ _ hM8
          refine ⟨m, _, _, rfl, rfl, hM9, bigS _ (by rw [RL_len]; omega), ?_⟩
          refine ⟨_, _, _, ts ++ [t2], rfl, (upd_ne nmd.symm).trans (w9 _ _ hz8), same_upd (s8.trans w9) hmh, by rw [upd_same]; simp [RL], ?_⟩
          have hR9 := (hR8.mono w9).snoc (t := t2) (r := [p.2.1, p.2.2, c0, p.1, (j : Int), (i : Int)]) upd_same
          refine ⟨hR9.1, fun l hl => ?_⟩
          have q9 := hR9.2 l hl
          by_cases e8 : (ts ++ [t2]).getD l 0 = m
          · rw [e8] at q9
            have := hM9.symm.trans q9
            cases this
          · exact (upd_ne e8).trans q9
      · rw [if_neg e] at hg
        rw [hg]
        refine iteF ⟨_, _, _, ts, rfl, hz7, s7, hM7, ?_⟩
        have : movedAt A p i = none := by
          unfold movedAt
          simp only [if_neg e]
        rw [this]
        simpa using hR.mono w7
    · rintro σ H6 ⟨v7, v8, v9, ts, rfl, hz, s, hM, hR⟩
      rw [rkK_len lqb] at hR
      refine ⟨hz, ?_⟩
      have sf : Same H4 (upd H6 d2 (.dT (rkK B qb))) := fun y o e => by
        by_cases ey : y = d2
        · subst ey
          rw [upd_same, ← hdb4, e]
        · rw [upd_ne ey]
          exact s y o (hide_of e ey)
      have hMf : upd H6 d2 (.dT (rkK B qb)) m = some (.lst (RL ts)) := (upd_ne nmd).trans hM
      have hRf : RsAt (upd H6 d2 (.dT (rkK B qb))) ts (movedL A B B.length) := by
        refine ⟨hR.1, fun l hl => ?_⟩
        have q9 := hR.2 l hl
        by_cases e8 : ts.getD l 0 = d2
        · rw [e8] at q9
          have := hz.symm.trans q9
          cases this
        · exact (upd_ne e8).trans q9
      refine ⟨_, rfl, _, rfl, _, rfl, (by show 3 ≤ sizeLine; decide), fun r hr => ?_⟩
      have w10 := same_new hr (o := .tup [.ref c, .ref w, .ref m])
      exact k _ _ (s14.trans (sf.trans w10)) ⟨r, c, w, m, rfl, ⟨upd_same, (hC4.mono sf).mono w10, (hW4.mono sf).mono w10, ts, w10 _ _ hMf, hRf.mono w10⟩, hc0, hw0, hm0, ncw, ncm, nwm⟩
end Pt
end
section
set_option maxRecDepth 100000
set_option maxHeartbeats 4000000
namespace Pt
open PySem PySem.Spec PyProof.Rows L2
def KOk (kvs : List (List Key × V)) (f : Spn → Option Int) : Prop := (kvs.map (·.1)).Nodup ∧ (∀ kv ∈ kvs, ∃ (s : Spn) (c : Int), kv = (skey s, V.int c)) ∧ ∀ s, valV kvs (skey s) = (f s).map V.int
theorem KOk.nil : KOk [] (fun _ => none) := ⟨List.nodup_nil, ⟨fun kv h => (List.not_mem_nil h).elim, fun s => rfl⟩⟩
theorem key_not {kvs : List (List Key × V)} {k : List Key} (h : valV kvs k = none) : ¬ k ∈ kvs.map (·.1) := valV_not h
theorem putK_keys (kvs : List (List Key × V)) (k : List Key) (v : V) : (putK kvs k v).map (·.1) = if (valV kvs k).isSome then kvs.map (·.1) else kvs.map (·.1) ++ [k] := by
  unfold putK
  rw [valV_any]
  cases h : (valV kvs k).isSome
  · rw [if_neg Bool.false_ne_true, if_neg Bool.false_ne_true, List.map_append]
    rfl
  · rw [if_pos rfl, if_pos rfl, List.map_map]
    refine List.map_congr_left fun kv _ => ?_
    show (if kv.1 = k then (kv.1, v) else kv).1 = kv.1
    split <;> rfl
theorem KOk.put {kvs : List (List Key × V)} {f : Spn → Option Int} (h : KOk kvs f) (s : Spn) (c : Int) : KOk (putK kvs (skey s) (.int c)) (fun t => if t = s then some c else f t) := by
  refine ⟨?_, fun kv hk => ?_, fun t => ?_⟩
  · rw [putK_keys]
    cases hv : valV kvs (skey s) with
    | some v => exact h.1
    | none =>
      show (kvs.map (·.1) ++ [skey s]).Nodup
      rw [List.nodup_append]
      refine ⟨h.1, by simp, fun x hx y hy => ?_⟩
      have : y = skey s := by simpa using hy
      subst this
      rintro rfl
      exact key_not hv hx
  · unfold putK at hk
    split at hk
    · obtain ⟨kv', hk', e⟩ := List.mem_map.mp hk
      split at e
      · rename_i e1
        exact ⟨s, c, by rw [← e, e1]⟩
      · rw [← e]
        exact h.2.1 _ hk'
    · rcases List.mem_append.mp hk with q | q
      · exact h.2.1 _ q
      · exact ⟨s, c, by simpa using q⟩
  · rw [valV_put]
    by_cases e : t = s
    · rw [if_pos (by rw [e])]
      simp only [if_pos e]
      rfl
    · rw [if_neg (fun z => e (skey_inj z))]
      simp only [if_neg e]
      exact h.2.2 t
theorem valV_drop (kvs : List (List Key × V)) (k j : List Key) : valV (dropK kvs k) j = if j = k then none else valV kvs j := by
  unfold dropK
  induction kvs with
  | nil => simp [valV]
  | cons p r ih =>
    rw [List.filter_cons]
    by_cases e : p.1 = k
    · rw [if_neg (by simp [e]), ih]
      by_cases e2 : j = k
      · rw [if_pos e2, if_pos e2]
      · rw [if_neg e2, if_neg e2, valV_neg (fun z => e2 (by rw [← z, e]))]
    · rw [if_pos (by simp [e])]
      by_cases e3 : p.1 = j
      · rw [valV_pos e3, valV_pos e3, if_neg (fun z => e (by rw [e3, z]))]
      · rw [valV_neg e3, valV_neg e3, ih]
theorem KOk.drop {kvs : List (List Key × V)} {f : Spn → Option Int} (h : KOk kvs f) (s : Spn) : KOk (dropK kvs (skey s)) (fun t => if t = s then none else f t) := by
  refine ⟨?_, fun kv hk => h.2.1 kv (List.mem_filter.mp hk).1, fun t => ?_⟩
  · exact h.1.sublist (List.filter_sublist.map _)
  · rw [valV_drop]
    by_cases e : t = s
    · rw [if_pos (by rw [e])]
      simp only [if_pos e]
      rfl
    · rw [if_neg (fun z => e (skey_inj z))]
      simp only [if_neg e]
      exact h.2.2 t
theorem KOk.ext {kvs : List (List Key × V)} {f g : Spn → Option Int} (h : KOk kvs f) (e : ∀ s, f s = g s) : KOk kvs g := ⟨h.1, h.2.1, fun s => by rw [← e s]; exact h.2.2 s⟩
theorem valV_mem {kvs : List (List Key × V)} {k : List Key} {v : V} : (kvs.map (·.1)).Nodup → (valV kvs k = some v ↔ (k, v) ∈ kvs) := by
  induction kvs with
  | nil => intro _; simp [valV]
  | cons p r ih =>
    intro hn
    have hn' := List.nodup_cons.mp hn
    by_cases e : p.1 = k
    · rw [valV_pos e]
      constructor
      · intro h
        have := Option.some.inj h
        subst this
        subst e
        simp
      · intro h
        rcases List.mem_cons.mp h with q | q
        · rw [← q]
        · exact absurd (List.mem_map.mpr ⟨_, q, rfl⟩) (by rw [← e]; exact hn'.1)
    · rw [valV_neg e, ih hn'.2]
      constructor
      · exact fun h => List.mem_cons_of_mem _ h
      · intro h
        rcases List.mem_cons.mp h with q | q
        · exact absurd (by rw [← q]) e
        · exact q
def costOf (l : List I3) (s : Spn) : Option Int := (l.find? fun p => decide (span p = s)).map (·.1)
theorem costOf_mem {l : List I3} (h : (spans l).Nodup) {s : Spn} {c : Int} : costOf l s = some c ↔ (c, s) ∈ l := by
  unfold costOf
  induction l with
  | nil => simp
  | cons p r ih =>
    have hn := List.nodup_cons.mp h
    rw [List.find?_cons]
    by_cases e : span p = s
    · simp only [decide_eq_true e]
      constructor
      · intro q
        have q := Option.some.inj q
        obtain ⟨p1, p2⟩ := p
        simp only [span] at e q
        subst e q
        simp
      · intro q
        rcases List.mem_cons.mp q with q | q
        · show some p.1 = some c
          rw [← q]
        · refine absurd (List.mem_map.mpr ⟨(c, s), q, ?_⟩) hn.1
          rw [e]
          rfl
    · simp only [decide_eq_false e]
      rw [ih hn.2]
      constructor
      · exact fun q => List.mem_cons_of_mem _ q
      · intro q
        rcases List.mem_cons.mp q with q | q
        · exact absurd (by rw [← q]; rfl) e
        · exact q
theorem costOf_none {l : List I3} {s : Spn} : costOf l s = none ↔ ¬ s ∈ spans l := by
  unfold costOf
  rw [Option.map_eq_none_iff, List.find?_eq_none]
  constructor
  · intro h z
    obtain ⟨p, hp, e⟩ := List.mem_map.mp z
    exact h p hp (by simpa using e)
  · intro h p hp e
    exact h (List.mem_map.mpr ⟨p, hp, by simpa using e⟩)
theorem costOf_snoc {l : List I3} {p : I3} (h : ¬ span p ∈ spans l) (s : Spn) : costOf (l ++ [p]) s = if s = span p then some p.1 else costOf l s := by
  unfold costOf
  rw [List.find?_append]
  by_cases e : s = span p
  · subst e
    have : l.find? (fun q => decide (span q = span p)) = none := by
      rw [List.find?_eq_none]
      exact fun q hq z => h (List.mem_map.mpr ⟨q, hq, by simpa using z⟩)
    rw [this, if_pos rfl]
    simp
  · rw [if_neg e]
    have : [p].find? (fun q => decide (span q = s)) = none := by
      rw [List.find?_eq_none]
      intro q hq z
      have : q = p := by simpa using hq
      subst this
      exact e (by simpa using Eq.symm (by simpa using z))
    rw [this, Option.or_none]
theorem nodup_of_map {α β : Type} {f : α → β} {l : List α} (h : (l.map f).Nodup) : l.Nodup := by
  rw [List.Nodup, List.pairwise_map] at h
  exact List.Pairwise.imp (fun ne e => ne (by rw [e])) h
def tripK (kv : List Key × V) : I3 := match kv with
  | ([.inl b, .inl e], .int c) => (c, b, e)
  | _ => default
theorem KOk.perm {kvs : List (List Key × V)} {B : List I3} (h : KOk kvs (costOf B)) (hB : (spans B).Nodup) : (kvs.map tripK).Perm B := by
  have hB' : B.Nodup := nodup_of_map hB
  have hk' : kvs.Nodup := nodup_of_map h.1
  have inj : ∀ kv ∈ kvs, ∀ kv' ∈ kvs, tripK kv = tripK kv' → kv = kv' := by
    intro kv h1 kv' h2 e
    obtain ⟨s, c, rfl⟩ := h.2.1 kv h1
    obtain ⟨s', c', rfl⟩ := h.2.1 kv' h2
    have e' : ((c, s.1, s.2) : I3) = (c', s'.1, s'.2) := e
    simp only [Prod.mk.injEq] at e'
    obtain ⟨rfl, h1, h2⟩ := e'
    have : s = s' := Prod.ext h1 h2
    rw [this]
  have hn : (kvs.map tripK).Nodup := by
    rw [List.Nodup, List.pairwise_map]
    exact List.Pairwise.imp_of_mem (fun h1 h2 ne e => ne (inj _ h1 _ h2 e)) hk'
  refine (List.perm_ext_iff_of_nodup hn hB').mpr fun p => ?_
  constructor
  · intro hp
    obtain ⟨kv, hkv, rfl⟩ := List.mem_map.mp hp
    obtain ⟨s, c, rfl⟩ := h.2.1 kv hkv
    have q := (valV_mem h.1).mpr hkv
    rw [h.2.2 s] at q
    cases hc : costOf B s with
    | none => rw [hc] at q; cases q
    | some c' =>
      rw [hc] at q
      have : c' = c := V.int.inj (Option.some.inj q)
      subst this
      exact (costOf_mem hB).mp hc
  · intro hp
    obtain ⟨c, s⟩ := p
    have hc := (costOf_mem hB).mpr hp
    have q : valV kvs (skey s) = some (.int c) := by rw [h.2.2 s, hc]; rfl
    exact List.mem_map.mpr ⟨_, (valV_mem h.1).mp q, rfl⟩
end Pt
end
section
set_option maxRecDepth 100000
set_option maxHeartbeats 4000000
namespace Pt
open PySem PySem.Spec PyProof.Rows L2
def mspan (r : List Int) : Spn := (r.getD 0 0, r.getD 1 0)
theorem getD_mem {l : List I3} {i : Nat} (h : i < l.length) : l.getD i default ∈ l := by
  have e1 : l.getD i default = l[i] := by simp [List.getD, h]
  rw [e1]
  exact List.getElem_mem h
theorem moved_mem {A B : List I3} (hB : (spans B).Nodup) {r : List Int} (h : r ∈ movedL A B B.length) : costOf B (mspan r) = some (r.getD 3 0) ∧ r.length = 6 := by
  unfold movedL at h
  obtain ⟨k, hk, e⟩ := List.mem_filterMap.mp h
  have hk := List.mem_range.mp hk
  unfold movedAt at e
  simp only at e
  split at e
  · split at e
    · cases e
    · have e := Option.some.inj e
      subst e
      refine ⟨(costOf_mem hB).mpr ?_, rfl⟩
      exact getD_mem hk
  · cases e
theorem final_f {A B : List I3} (hA : (spans A).Nodup) (hB : (spans B).Nodup) (s : Spn) :
    (if s ∈ spans (cameL A B) then costOf B s else if s ∈ (movedL A B B.length).map mspan then costOf B s else if s ∈ spans (cameL B A) then none else costOf A s) = costOf B s := by
  split
  · rfl
  · rename_i h1
    split
    · rfl
    · rename_i h2
      split
      · rename_i h3
        obtain ⟨p, hp, e⟩ := List.mem_map.mp h3
        have := (List.mem_filter.mp hp).2
        refine (costOf_none.mpr ?_).symm
        rw [← e]
        simpa using this
      · rename_i h3
        by_cases a : s ∈ spans A
        · by_cases b : s ∈ spans B
          · obtain ⟨p, hp, e⟩ := List.mem_map.mp b
            obtain ⟨k, hk, rfl⟩ := List.mem_iff_getElem.mp hp
            have ek : B.getD k default = B[k] := by simp [List.getD, hk]
            subst e
            have hm : movedAt A (B.getD k default) k = none := by
              cases hm : movedAt A (B.getD k default) k with
              | none => rfl
              | some r =>
                have hr : r ∈ movedL A B B.length := List.mem_filterMap.mpr ⟨k, List.mem_range.mpr hk, hm⟩
                refine absurd (List.mem_map.mpr ⟨r, hr, ?_⟩) h2
                unfold movedAt at hm
                simp only at hm
                split at hm
                · split at hm
                  · cases hm
                  · have hm := Option.some.inj hm
                    subst hm
                    rw [← ek]
                    rfl
                · cases hm
            unfold movedAt at hm
            rw [ek] at hm
            simp only [if_pos a] at hm
            split at hm
            · rename_i q
              have hj : (spans A).idxOf (span B[k]) < A.length := by
                have := List.idxOf_lt_length_iff.mpr a
                simpa using this
              have e1 : costOf B (span B[k]) = some B[k].1 := (costOf_mem hB).mpr (List.getElem_mem hk)
              rw [e1, ← q.1]
              refine (costOf_mem hA).mpr ?_
              have e2 := getD_mem hj
              have e3 : span (A.getD ((spans A).idxOf (span B[k])) default) = span B[k] := by
                have q5 : (A.map span)[(spans A).idxOf (span B[k])]'(by simpa using hj) = span B[k] := List.getElem_idxOf (x := span B[k]) (xs := spans A) (by simpa using hj)
                rw [List.getElem_map] at q5
                have e4 : A.getD ((spans A).idxOf (span B[k])) default = A[(spans A).idxOf (span B[k])] := by simp [List.getD, hj]
                rw [e4]
                exact q5
              generalize A.getD ((spans A).idxOf (span B[k])) default = z at e2 e3
              obtain ⟨z1, z2⟩ := z
              have e3' : z2 = span B[k] := e3
              rw [← e3']
              exact e2
            · cases hm
          · exfalso
            obtain ⟨p, hp, e⟩ := List.mem_map.mp a
            refine h3 (List.mem_map.mpr ⟨p, List.mem_filter.mpr ⟨hp, ?_⟩, e⟩)
            rw [e]
            simpa using b
        · rw [costOf_none.mpr a]
          refine (costOf_none.mpr fun b => ?_).symm
          obtain ⟨p, hp, e⟩ := List.mem_map.mp b
          refine h1 (List.mem_map.mpr ⟨p, List.mem_filter.mpr ⟨hp, ?_⟩, e⟩)
          rw [e]
          simpa using a
theorem put_step {B : List I3} {f0 : Spn → Option Int} {L : List Spn} {s : Spn} {c : Int} (h : costOf B s = some c) (t : Spn) : (if t = s then some c else (if t ∈ L then costOf B t else f0 t)) = if t ∈ L ++ [s] then costOf B t else f0 t := by
  by_cases e : t = s
  · subst e
    rw [if_pos rfl, if_pos (by simp), h]
  · rw [if_neg e]
    by_cases m : t ∈ L
    · rw [if_pos m, if_pos (by simp [m])]
    · rw [if_neg m, if_neg (by simp [m, e])]
theorem take_snoc3 {l : List I3} {i : Nat} (h : i < l.length) : l.take (i + 1) = l.take i ++ [l.getD i default] := by
  rw [List.take_succ_eq_append_getElem h]
  simp [List.getD, h]
theorem take_snocR {l : List (List Int)} {i : Nat} (h : i < l.length) : l.take (i + 1) = l.take i ++ [l.getD i []] := by
  rw [List.take_succ_eq_append_getElem h]
  simp [List.getD, h]
theorem len_put (kvs : List (List Key × V)) (k : List Key) (v : V) : (putK kvs k v).length ≤ kvs.length + 1 := by
  unfold putK
  split
  · simp
  · simp
theorem six {r : List Int} (h : r.length = 6) : ∃ a b c d e f, r = [a, b, c, d, e, f] := by
  match r, h with
  | [a, b, c, d, e, f], _ => exact ⟨a, b, c, d, e, f, rfl⟩
theorem sl6 {a b c d e f : V} : ¬ (HT.sIx [a, b, c, d, e, f].length 0 none = 0 ∧ HT.sIx [a, b, c, d, e, f].length [a, b, c, d, e, f].length (some 2) = [a, b, c, d, e, f].length) := fun z => absurd z.2 (by show ¬ HT.sIx 6 6 (some ((2 : Nat) : Int)) = 6; rw [HT.sIx_nat]; decide)
theorem cut6 {a b c d e f : V} : cutV [a, b, c, d, e, f] none (some 2) = [a, b] := cut_to (k := 2) (by simp)
theorem came_sub {A B : List I3} {p : I3} (h : p ∈ cameL A B) : p ∈ B := (List.mem_filter.mp h).1
theorem cameL_len (A B : List I3) : (cameL A B).length ≤ B.length := List.length_filter_le _ _
def sp_led : Sp := fun vs H Q _ => ∃ (a r c w m : Addr) (A B : List I3), vs = [.ref a, .ref r] ∧ T3 H a A ∧ NewsAt H r c w m A B ∧ NearOk A ∧ NearOk B ∧ Ret (fun v H' => ∃ b, v = .ref b ∧ H b = none ∧ T3 H' b B) H Q
abbrev sc_led_N : List Str := ["ahead", "news", "came", "went", "moved", "costs", "cost", "begin", "end", "row", "span"]
theorem sc_led : FnScope sc_led_N ["ahead", "news"] (defScope s_led) := ⟨rfl, rfl, rfl, by decide +kernel, rfl, by decide +kernel, by decide +kernel⟩
theorem ok_led {P : Program} {w : World} {K : PySem.W.Frag} {mg : Str → Option Value} {base : Heap} (T : Tx K mg) : Fn P w K mg base "led" ["ahead", "news"] (1) sp_led := by
  obtain ⟨fd, F⟩ := T.D_led
  refine ⟨_, fd, T.g_led, F.kp, F.bindsN (fun _ _ _ _ _ _ us hl => match us, hl with | [_, _], _ => rfl), F.ok sc_led (fun vs H Q E h => ?_) (fun cdv A outer s H vs Q E hr h => ?_)⟩
  · (obtain ⟨a, r, c, w, m, A, B, rfl, ⟨ta, hta, hTa⟩, ⟨hnr, ⟨tc, htc, hTc⟩, ⟨tw, htw, hTw⟩, ⟨tm, htm, hTm⟩⟩, hA, hB, k⟩ := h)
    rfl
  · (obtain ⟨a, r, c, w, m, A, B, rfl, ⟨ta, hta, hTa⟩, ⟨hnr, ⟨tc, htc, hTc⟩, ⟨tw, htw, hTw⟩, ⟨tm, htm, hTm⟩⟩, hA, hB, k⟩ := h)
    refine ⟨_, PSs.nox (pss_cons (ps_asg (pv 1) (pg_tup (by rfl) (pgs_cons (pg_name (i := 2) sc_led.nd rfl (Or.inl rfl)) (pgs_cons (pg_name (i := 3) sc_led.nd rfl (Or.inl rfl)) (pgs_cons (pg_name (i := 4) sc_led.nd rfl (Or.inl rfl)) pgs_nil)))))
      (pss_cons (ps_set (i := 5) sc_led.nd rfl (Or.inl rfl) pe_dnewT)
      (pss_cons (ps_for PassesOwn.never rfl (pi_list (pv 0)) (pg_tup rfl (pgs_cons (pg_name (i := 6) sc_led.nd rfl (Or.inl rfl)) (pgs_cons (pg_name (i := 7) sc_led.nd rfl (Or.inl rfl)) (pgs_cons (pg_name (i := 8) sc_led.nd rfl (Or.inl rfl)) pgs_nil))))
      (pss_one (ps_dput (hu_of hr) (pv 5) (pe_tup (pa_cons (pv 7) (pa_cons (pv 8) pa_nil))) (pv 6) rfl)))
      (pss_cons (ps_for PassesOwn.never rfl (pi_list (pv 3)) (pg_name (i := 9) sc_led.nd rfl (Or.inl rfl))
      (pss_one (ps_expr (pe_bm PySem.F.plainAttrs_dict PySem.F.slot_dict_pop PySem.F.type_dict_pop (DX.mt_popT (hu_of hr)) (pv 5) (pa_cons (pe_slice sl_tup (pv 9) (po_some pe_int) po_none) (pa_cons pe_non pa_nil))))))
      (pss_cons (ps_for PassesOwn.never rfl (pi_list (pv 4)) (pg_name (i := 9) sc_led.nd rfl (Or.inl rfl))
      (pss_one (ps_dput (hu_of hr) (pv 5) (pe_slice sl_tup (pv 9) po_none (po_some pe_int)) (pe_ix ix_tup (pv 9) pe_int (fun _ _ => rfl)) rfl)))
      (pss_cons (ps_for PassesOwn.never rfl (pi_list (pv 2)) (pg_name (i := 9) sc_led.nd rfl (Or.inl rfl))
      (pss_one (ps_dput (hu_of hr) (pv 5) (pe_slice sl_tup (pv 9) (po_some pe_int) po_none) (pe_ix ix_tup (pv 9) pe_int (fun _ _ => rfl)) rfl)))
      (pss_one (ps_ret (pe_callB cr_sorted3 (by rfl) T.z_sorted (by decide +kernel) (pa_cons (pe_lock (pe_lc (own := [("span", 10), ("cost", 6)]) rfl sc_led.nd (pi_itemsT (pv 5)) (blkOk_by (N := sc_led_N) (sc := defScope s_led) (by decide +kernel)) (fun _ _ _ _ _ => (pg_tupK (K := K) (n := 2) rfl rfl (pgs_cons (pg_name (i := 10) sc_led.nd rfl (Or.inl rfl) (.inr rfl)) (pgs_cons (pg_name (i := 6) sc_led.nd rfl (Or.inl rfl) (.inr rfl)) pgs_nil)))) (fun _ _ _ _ _ => pts_nil) (fun _ _ _ _ _ => (pe_tup (pa_cons (pv 6) (pa_cons (pe_ix (ix_tupK (K := K) rfl) (pv 10) pe_int (fun _ _ => rfl)) (pa_cons (pe_ix (ix_tupK (K := K) rfl) (pv 10) pe_int (fun _ _ => rfl)) pa_nil))))))) pa_nil)))))))))), ?_⟩
    have fA := hA.few
    have fB := hB.few
    have fC := cameL_len A B
    have fW := cameL_len B A
    have fM := movedL_len A B B.length
    refine ⟨_, rfl, r, _, rfl, SqT.of hnr, rfl, _, _, rfl, _, _, rfl, _, _, rfl, rfl, ?_⟩
    refine fun d hd => ?_
    have s0 := same_new (o := .dT []) hd
    have hdn : ∀ {H' : Hp} {t : Addr} {kvs : List (List Key × V)} {xs : List V}, H' d = some (.dT kvs) → H' t = some (.tup xs) → t ≠ d := fun e1 e2 z => by subst z; rw [e1] at e2; cases e2
    -- ahead
    dsimp only
    refine seq_mid (fun σ' H' => ∃ (v6 v7 v8 v9 : Option V) (kvs : List (List Key × V)), σ' = [some (.ref a), some (.ref r), some (.ref c), some (.ref w), some (.ref m), some (.ref d), v6, v7, v8, v9, none] ∧ Same H H' ∧ H' d = some (.dT kvs) ∧ KOk kvs (costOf A) ∧ kvs.length ≤ A.length) (fun N hN => ?_) ?_
    · refine ⟨_, rfl, a, rfl, ⟨_, SqL.of (s0 _ _ hta)⟩, for_list (K := K) (a := a) (xs := RL ta) (fun i σ' H' => ∃ (v6 v7 v8 v9 : Option V) (kvs : List (List Key × V)), σ' = [some (.ref a), some (.ref r), some (.ref c), some (.ref w), some (.ref m), some (.ref d), v6, v7, v8, v9, none] ∧ Same H H' ∧ H' d = some (.dT kvs) ∧ KOk kvs (costOf (A.take i)) ∧ kvs.length ≤ i)
        ⟨none, none, none, none, [], rfl, s0, upd_same, KOk.nil.ext fun s => rfl, Nat.le_refl _⟩ (fun i σ' H' _ ⟨_, _, _, _, _, _, s, _⟩ => SqL.of (s _ _ hta)) ?_ ?_⟩
      · rintro i x σ1 H1 hx ⟨v6, v7, v8, v9, kvs, rfl, s, hD, hK, hl⟩
        obtain ⟨hb, rfl⟩ := RL_at hx
        have hi : i < A.length := by rw [← hTa.1]; exact hb
        have hp := s _ _ (hTa.2 i hi)
        have hnw := span_new hA.nd hi
        rw [take_snoc3 hi]
        generalize A.getD i default = p at hp hnw
        refine ⟨_, _, rfl, SqT.of hp, rfl, _, _, rfl, _, _, rfl, _, _, rfl, rfl, ?_⟩
        refine ⟨_, rfl, _, rfl, _, rfl, _, rfl, (by show 2 ≤ sizeLine; decide), fun q hq => ?_⟩
        have w1 := same_new hq (o := .tup [.int p.2.1, .int p.2.2])
        have hD1 := w1 _ _ hD
        refine ⟨d, _, rfl, .inr ⟨_, skey (span p), q, hD1, rfl, upd_same, bigS _ (by omega), rfl⟩, ?_⟩
        refine ⟨_, _, _, _, _, rfl, same_upd (s.trans w1) hd, upd_same, (hK.put (span p) p.1).ext fun t => (costOf_snoc hnw t).symm, ?_⟩
        have := len_put kvs (skey (span p)) (.int p.1)
        omega
      · rintro σ1 H1 ⟨v6, v7, v8, v9, kvs, rfl, s, hD, hK, hl⟩
        rw [RL_len, hTa.1] at hK hl
        rw [List.take_length] at hK
        exact hN _ _ ⟨v6, v7, v8, v9, kvs, rfl, s, hD, hK, hl⟩
    rintro σ1 H1 ⟨v6, v7, v8, v9, kvs, rfl, s1, hD1, hK1, hl1⟩
    -- went
    refine seq_mid (fun σ' H' => ∃ (v9 : Option V) (kvs : List (List Key × V)), σ' = [some (.ref a), some (.ref r), some (.ref c), some (.ref w), some (.ref m), some (.ref d), v6, v7, v8, v9, none] ∧ Same H H' ∧ H' d = some (.dT kvs) ∧ KOk kvs (fun s => if s ∈ spans (cameL B A) then none else costOf A s) ∧ kvs.length ≤ A.length) (fun N hN => ?_) ?_
    · refine ⟨_, rfl, w, rfl, ⟨_, SqL.of (s1 _ _ htw)⟩, for_list (K := K) (a := w) (xs := RL tw) (fun i σ' H' => ∃ (v9 : Option V) (kvs : List (List Key × V)), σ' = [some (.ref a), some (.ref r), some (.ref c), some (.ref w), some (.ref m), some (.ref d), v6, v7, v8, v9, none] ∧ Same H H' ∧ H' d = some (.dT kvs) ∧ KOk kvs (fun s => if s ∈ spans ((cameL B A).take i) then none else costOf A s) ∧ kvs.length ≤ A.length)
        ⟨v9, kvs, rfl, s1, hD1, hK1.ext fun s => by simp, hl1⟩ (fun i σ' H' _ ⟨_, _, _, s, _⟩ => SqL.of (s _ _ htw)) ?_ ?_⟩
      · rintro i x σ1 H2 hx ⟨v9, kvs, rfl, s, hD, hK, hl⟩
        obtain ⟨hb, rfl⟩ := RL_at hx
        have hi : i < (cameL B A).length := by rw [← hTw.1]; exact hb
        have hp := s _ _ (hTw.2 i hi)
        rw [take_snoc3 hi]
        generalize (cameL B A).getD i default = p at hp
        have hf : ∀ kvs', KOk kvs' (fun t => if t = span p then none else if t ∈ spans ((cameL B A).take i) then none else costOf A t) → KOk kvs' (fun t => if t ∈ spans ((cameL B A).take i ++ [p]) then none else costOf A t) := fun kvs' h => h.ext fun t => by
          by_cases e : t = span p
          · rw [if_pos e, if_pos (by rw [e]; simp [spans])]
          · rw [if_neg e]
            by_cases m : t ∈ spans ((cameL B A).take i)
            · rw [if_pos m, if_pos (by unfold spans at m ⊢; rw [List.map_append]; exact List.mem_append_left _ m)]
            · rw [if_neg m, if_neg (by unfold spans at m ⊢; rw [List.map_append]; exact fun z => (List.mem_append.mp z).elim m fun z => e (by simpa using z))]
        refine ⟨_, rfl, .inr (.inr (.inl ⟨rfl, .inr ⟨_, hD⟩⟩)), _, rfl, _, rfl, _, _, rfl, SqT.of hp, sl3, fun q hq => ?_⟩
        have w1 := same_new hq (o := .tup (cutV [.int p.1, .int p.2.1, .int p.2.2] (some 1) none))
        have hD1 := w1 _ _ hD
        refine ⟨d, kvs, skey (span p), q, .non, rfl, rfl, hD1, by rw [upd_same, cut3]; rfl, fun v hv => ?_, fun hv => ?_⟩
        · exact ⟨_, _, rfl, same_upd (s.trans w1) hd, upd_same, hf _ (hK.drop (span p)), Nat.le_trans (List.length_filter_le _ _) hl⟩
        · refine ⟨_, _, rfl, s.trans w1, hD1, hf _ (hK.ext fun t => ?_), hl⟩
          by_cases e : t = span p
          · rw [if_pos e]
            have q := hK.2.2 t
            rw [e, hv] at q
            rw [e]
            exact (Option.map_eq_none_iff.mp q.symm)
          · rw [if_neg e]
      · rintro σ1 H2 ⟨v9, kvs, rfl, s, hD, hK, hl⟩
        rw [RL_len, hTw.1, List.take_length] at hK
        exact hN _ _ ⟨v9, kvs, rfl, s, hD, hK, hl⟩
    clear s1 hD1 hK1 hl1
    rintro σ1 H1 ⟨v9, kvs, rfl, s1, hD1, hK1, hl1⟩
    -- moved
    refine seq_mid (fun σ' H' => ∃ (v9 : Option V) (kvs : List (List Key × V)), σ' = [some (.ref a), some (.ref r), some (.ref c), some (.ref w), some (.ref m), some (.ref d), v6, v7, v8, v9, none] ∧ Same H H' ∧ H' d = some (.dT kvs) ∧ KOk kvs (fun s => if s ∈ (movedL A B B.length).map mspan then costOf B s else if s ∈ spans (cameL B A) then none else costOf A s) ∧ kvs.length ≤ A.length + B.length) (fun N hN => ?_) ?_
    · refine ⟨_, rfl, m, rfl, ⟨_, SqL.of (s1 _ _ htm)⟩, for_list (K := K) (a := m) (xs := RL tm) (fun i σ' H' => ∃ (v9 : Option V) (kvs : List (List Key × V)), σ' = [some (.ref a), some (.ref r), some (.ref c), some (.ref w), some (.ref m), some (.ref d), v6, v7, v8, v9, none] ∧ Same H H' ∧ H' d = some (.dT kvs) ∧ KOk kvs (fun s => if s ∈ ((movedL A B B.length).take i).map mspan then costOf B s else if s ∈ spans (cameL B A) then none else costOf A s) ∧ kvs.length ≤ A.length + i)
        ⟨v9, kvs, rfl, s1, hD1, hK1.ext fun s => by simp, hl1⟩ (fun i σ' H' _ ⟨_, _, _, s, _⟩ => SqL.of (s _ _ htm)) ?_ ?_⟩
      · rintro i x σ1 H2 hx ⟨v9, kvs, rfl, s, hD, hK, hl⟩
        obtain ⟨hb, rfl⟩ := RL_at hx
        have hi : i < (movedL A B B.length).length := by rw [← hTm.1]; exact hb
        have hp := s _ _ (hTm.2 i hi)
        have hmem : (movedL A B B.length).getD i [] ∈ movedL A B B.length := by
          have e1 : (movedL A B B.length).getD i [] = (movedL A B B.length)[i] := by simp [List.getD, hi]
          rw [e1]
          exact List.getElem_mem hi
        obtain ⟨hc, h6⟩ := moved_mem hB.nd hmem
        rw [take_snocR hi]
        generalize (movedL A B B.length).getD i [] = p at hp hc h6
        obtain ⟨p0, p1, p2, p3, p4, p5, rfl⟩ := six h6
        have hp' : H2 (tm.getD i 0) = some (.tup [.int p0, .int p1, .int p2, .int p3, .int p4, .int p5]) := hp
        refine ⟨_, rfl, _, _, _, _, rfl, rfl, SqT.of hp', atI_nat (j := 3) rfl, _, rfl, _, rfl, _, rfl, _, _, rfl, SqT.of hp', sl6, fun q hq => ?_⟩
        have w1 := same_new hq (o := .tup (cutV [.int p0, .int p1, .int p2, .int p3, .int p4, .int p5] none (some 2)))
        have hD1 := w1 _ _ hD
        refine ⟨d, _, rfl, .inr ⟨_, skey (p0, p1), q, hD1, rfl, by rw [upd_same, cut6]; rfl, bigS _ (by omega), rfl⟩, ?_⟩
        refine ⟨_, _, rfl, same_upd (s.trans w1) hd, upd_same, (hK.put (p0, p1) p3).ext fun t => ?_, ?_⟩
        · rw [List.map_append]
          exact put_step (f0 := fun s => if s ∈ spans (cameL B A) then none else costOf A s) (s := (p0, p1)) (c := p3) (L := ((movedL A B B.length).take i).map mspan) hc t
        · have := len_put kvs (skey (p0, p1)) (.int p3)
          omega
      · rintro σ1 H2 ⟨v9, kvs, rfl, s, hD, hK, hl⟩
        rw [RL_len, hTm.1] at hK hl
        rw [List.take_length] at hK
        exact hN _ _ ⟨v9, kvs, rfl, s, hD, hK, by omega⟩
    clear s1 hD1 hK1 hl1
    rintro σ1 H1 ⟨v9, kvs, rfl, s1, hD1, hK1, hl1⟩
    -- came
    refine seq_mid (fun σ' H' => ∃ (v9 : Option V) (kvs : List (List Key × V)), σ' = [some (.ref a), some (.ref r), some (.ref c), some (.ref w), some (.ref m), some (.ref d), v6, v7, v8, v9, none] ∧ Same H H' ∧ H' d = some (.dT kvs) ∧ KOk kvs (fun s => if s ∈ spans (cameL A B) then costOf B s else if s ∈ (movedL A B B.length).map mspan then costOf B s else if s ∈ spans (cameL B A) then none else costOf A s) ∧ kvs.length ≤ A.length + B.length + B.length) (fun N hN => ?_) ?_
    · refine ⟨_, rfl, c, rfl, ⟨_, SqL.of (s1 _ _ htc)⟩, for_list (K := K) (a := c) (xs := RL tc) (fun i σ' H' => ∃ (v9 : Option V) (kvs : List (List Key × V)), σ' = [some (.ref a), some (.ref r), some (.ref c), some (.ref w), some (.ref m), some (.ref d), v6, v7, v8, v9, none] ∧ Same H H' ∧ H' d = some (.dT kvs) ∧ KOk kvs (fun s => if s ∈ spans ((cameL A B).take i) then costOf B s else if s ∈ (movedL A B B.length).map mspan then costOf B s else if s ∈ spans (cameL B A) then none else costOf A s) ∧ kvs.length ≤ A.length + B.length + i)
        ⟨v9, kvs, rfl, s1, hD1, hK1.ext fun s => by simp, hl1⟩ (fun i σ' H' _ ⟨_, _, _, s, _⟩ => SqL.of (s _ _ htc)) ?_ ?_⟩
      · rintro i x σ1 H2 hx ⟨v9, kvs, rfl, s, hD, hK, hl⟩
        obtain ⟨hb, rfl⟩ := RL_at hx
        have hi : i < (cameL A B).length := by rw [← hTc.1]; exact hb
        have hp := s _ _ (hTc.2 i hi)
        have hmem := came_sub (getD_mem hi)
        rw [take_snoc3 hi]
        generalize (cameL A B).getD i default = p at hp hmem
        have hc : costOf B (span p) = some p.1 := (costOf_mem hB.nd).mpr hmem
        refine ⟨_, rfl, _, _, _, _, rfl, rfl, SqT.of hp, at0, _, rfl, _, rfl, _, rfl, _, _, rfl, SqT.of hp, sl3, fun q hq => ?_⟩
        have w1 := same_new hq (o := .tup (cutV [.int p.1, .int p.2.1, .int p.2.2] (some 1) none))
        have hD1 := w1 _ _ hD
        refine ⟨d, _, rfl, .inr ⟨_, skey (span p), q, hD1, rfl, by rw [upd_same, cut3]; rfl, bigS _ (by omega), rfl⟩, ?_⟩
        refine ⟨_, _, rfl, same_upd (s.trans w1) hd, upd_same, (hK.put (span p) p.1).ext fun t => ?_, ?_⟩
        · have e3 : spans ((cameL A B).take i ++ [p]) = spans ((cameL A B).take i) ++ [span p] := by simp [spans]
          rw [e3]
          exact put_step (f0 := fun s => if s ∈ (movedL A B B.length).map mspan then costOf B s else if s ∈ spans (cameL B A) then none else costOf A s) (L := spans ((cameL A B).take i)) hc t
        · have := len_put kvs (skey (span p)) (.int p.1)
          omega
      · rintro σ1 H2 ⟨v9, kvs, rfl, s, hD, hK, hl⟩
        rw [RL_len, hTc.1] at hK hl
        rw [List.take_length] at hK
        exact hN _ _ ⟨v9, kvs, rfl, s, hD, hK, by omega⟩
    clear s1 hD1 hK1 hl1
    rintro σ1 H1 ⟨v9, kvs, rfl, s1, hD1, hK1, hl1⟩
    have hK := hK1.ext (final_f hA.nd hB.nd)
    have hperm := hK.perm hB.nd
    refine ⟨d, _, hD1, trivial, fun od => ?_⟩
    have sh : Same (hide d H1) (upd H1 d (.frz od (.dT kvs))) := same_over
    have tn : ∀ {H' : Hp} {D t : Addr} {acc : List V} {p : I3}, H' D = some (.lst acc) → TripAt H' t p → t ≠ D := fun e1 e2 z => by subst z; rw [TripAt, e1] at e2; cases e2
    refine ⟨_, rfl, d, od, kvs, rfl, upd_same, fun D hDn => lcP walk_itemsT (by omega) hDn (fun i y H' => ∃ t kv, y = .ref t ∧ kvs[i]? = some kv ∧ TripAt H' t (tripK kv)) (fun i y H2 H3 s ⟨t, kv, e, h1, h2⟩ => ⟨t, kv, e, h1, s _ _ h2⟩)
      (fun i y H2 acc o e0 ⟨t, kv, e, h1, h2⟩ => ⟨t, kv, e, h1, (upd_ne (tn e0 h2)).trans h2⟩) (fun H2 s => s _ _ upd_same) ?_ ?_⟩
    · rintro i x H2 H3 Q' hi s ⟨acc, hacc⟩ ⟨Tp, q, key, v, hkv, hq, rfl, hTp, rfl⟩ k'
      obtain ⟨sp, cc, e⟩ := hK.2.1 _ (List.mem_of_getElem? hkv)
      cases e
      have w1 := same_new hTp (o := .tup [.ref q, .int cc])
      have hq1 := w1 _ _ hq
      refine ⟨Tp, _, rfl, SqT.of upd_same, rfl, _, _, rfl, _, _, rfl, rfl, rfl, ?_⟩
      refine ⟨_, rfl, _, rfl, _, _, _, _, rfl, rfl, SqT.of hq1, at0, _, rfl, _, _, _, _, rfl, rfl, SqT.of hq1, at1, (by show 3 ≤ sizeLine; decide), fun t ht => ?_⟩
      exact k' _ _ (w1.trans (same_new ht)) ⟨t, _, rfl, hkv, upd_same⟩
    · intro H2 acc s2 hacc hlen hP
      have hz := s2 _ _ (upd_same (H := H1) (a := d) (o := .frz od (.dT kvs)))
      refine ⟨hz, ?_⟩
      obtain ⟨ts, rfl⟩ : ∃ as : List Addr, acc = RL as := refs_of fun x hx => by
        obtain ⟨i, hi⟩ := List.mem_iff_getElem?.mp hx
        obtain ⟨t, kv, e, _⟩ := hP i x hi
        exact ⟨t, e⟩
      have lts : ts.length = kvs.length := by
        have : (RL ts).length = ts.length := by simp
        omega
      have hT2 : TsAt H2 ts (kvs.map tripK) := by
        refine ⟨by simp [lts], fun i hi => ?_⟩
        have hi' : i < kvs.length := by simpa using hi
        obtain ⟨t, kv, e, h1, h2⟩ := hP i _ (RL_get (by omega))
        cases e
        have e4 : (kvs.map tripK).getD i default = tripK kv := by
          rw [List.getD_eq_getElem?_getD, List.getElem?_map, h1]
          rfl
        rw [e4]
        exact h2
      have sf : Same H1 (upd H2 d (.dT kvs)) := fun y o e => by
        by_cases ey : y = d
        · subst ey
          rw [upd_same, ← hD1, e]
        · rw [upd_ne ey]
          exact s2 y o ((upd_ne ey).trans e)
      have nDd : D ≠ d := fun z => by subst z; rw [upd_same] at hDn; cases hDn
      have hacc3 : upd H2 d (.dT kvs) D = some (.lst (RL ts)) := (upd_ne nDd).trans hacc
      have hT3 : TsAt (upd H2 d (.dT kvs)) ts (kvs.map tripK) := by
        refine ⟨hT2.1, fun i hi => ?_⟩
        have q9 := hT2.2 i hi
        by_cases e8 : ts.getD i 0 = d
        · rw [e8] at q9
          have := hz.symm.trans q9
          cases this
        · exact (upd_ne e8).trans q9
      refine ⟨D, _, tripOf (upd H2 d (.dT kvs)), rfl, SqL.of hacc3, fun x hx => ?_, fun ys p hs hp hpn => ?_⟩
      · obtain ⟨t, ht, rfl⟩ := List.mem_map.mp hx
        obtain ⟨j, hj, rfl⟩ := List.mem_iff_getElem.mp ht
        have q := hT3.2 j (by rw [← hT3.1]; exact hj)
        have e2 : ts.getD j 0 = ts[j] := by simp [List.getD, hj]
        rw [e2] at q
        exact ⟨_, rfl, by rw [tripOf_at q]; exact q⟩
      · obtain ⟨us, qs, rfl, hU, hsr, hpm⟩ := sorted_done hT3 hs hp
        have eB : qs = B := srt_uniq hsr hB.srt (hpm.trans hperm)
        subst eB
        have sF := s1.trans sf
        exact k _ _ (same_upd sF (sF.free hpn)) ⟨p, rfl, sF.free hpn, us, upd_same, hU.mono (same_new hpn)⟩
end Pt
end
section
set_option maxRecDepth 100000
set_option maxHeartbeats 4000000
namespace Pt
open PySem PySem.Spec PyProof.Rows L2
def toL (p : I3) : List Int := [p.1, p.2.1, p.2.2]
theorem T3.rows {H : Hp} {a : Addr} {ps : List I3} (h : T3 H a ps) : RowsI H a (ps.map toL) := by
  obtain ⟨ts, h1, h2, h3⟩ := h
  refine ⟨ts, h1, by simpa using h2, fun i hi => ?_⟩
  have hi' : i < ps.length := by simpa using hi
  have e : (ps.map toL).getD i [] = toL (ps.getD i default) := by simp [List.getD, hi']
  rw [e]
  exact h3 i hi'
def sp_are_news : Sp := fun vs H Q _ => ∃ (r c w m : Addr) (A B : List I3), vs = [.ref r] ∧ NewsAt H r c w m A B ∧ A.length ≤ 1000 ∧ B.length ≤ 1000 ∧ (spans B).Nodup ∧ Ret (fun v _ => v = .bl true) H Q
abbrev sc_are_news_N : List Str := ["thing", "rows", "many", "row"]
theorem sc_are_news : FnScope sc_are_news_N ["thing"] (defScope s_are_news) := ⟨rfl, rfl, rfl, by decide +kernel, rfl, by decide +kernel, by decide +kernel⟩
theorem ok_are_news {P : Program} {w : World} {K : PySem.W.Frag} {mg : Str → Option Value} {base : Heap} (T : Tx K mg) : Fn P w K mg base "are_news" ["thing"] (3) sp_are_news := by
  obtain ⟨fd, F⟩ := T.D_are_news
  refine ⟨_, fd, T.g_are_news, F.kp, F.bindsN (fun _ _ _ _ _ _ us hl => match us, hl with | [_], _ => rfl), F.ok sc_are_news (fun vs H Q E h => ?_) (fun cdv A outer s H vs Q E hr h => ?_)⟩
  · (obtain ⟨r, c, w, m, A, B, rfl, hN, fA, fB, ndB, k⟩ := h)
    rfl
  · (obtain ⟨r, c, w, m, A, B, rfl, hN, fA, fB, ndB, k⟩ := h)
    refine ⟨_, PSs.nox (pss_cons (ps_if (PW.pt (pw_or (pt_not (pt_val (pe_callB call_isi (by rfl) T.z_isinstance (by decide +kernel) (pa_cons (pv 0) (pa_cons (pe_bltn (v := .ty "tuple") (by rfl) T.z_tuple (by decide +kernel) rfl) pa_nil))))) (pw_or1 (pt_cmpR op_ne (pe_callB call_len_seq (by rfl) T.z_len (by decide +kernel) (pa_cons (pv 0) pa_nil)) pe_int (nomark _))))) (pss_one (ps_ret pe_bl)) pss_nil)
      (pss_cons (ps_for PassesOwn.never rfl (RZ.pi_zipA (by rfl) T.z_zip (pa_cons (pv 0) (pa_cons (pe_tup (pa_cons pe_int (pa_cons pe_int (pa_cons pe_int pa_nil)))) pa_nil))) (pg_tup rfl (pgs_cons (pg_name (i := 1) sc_are_news.nd rfl (Or.inl rfl)) (pgs_cons (pg_name (i := 2) sc_are_news.nd rfl (Or.inr rfl)) pgs_nil)))
      (pss_one (ps_if (PW.pt (pw_or (pt_not (pt_val (pe_callB call_isi (by rfl) T.z_isinstance (by decide +kernel) (pa_cons (pv 1) (pa_cons (pe_bltn (v := .ty "list") (by rfl) T.z_list (by decide +kernel) rfl) pa_nil))))) (pw_or1 (pt_not (pt_val (pe_callB (cr_all rfl) (by rfl) T.z_all (by decide +kernel) (pa_cons (pe_lc (own := [("row", 3)]) rfl sc_are_news.nd (pi_list (pv 1)) (blkOk_by (N := sc_are_news_N) (sc := defScope s_are_news) (by decide +kernel)) (fun _ _ _ _ _ => (pg_name (i := 3) sc_are_news.nd rfl (Or.inl rfl))) (fun _ _ _ _ _ => pts_nil) (fun _ _ _ _ _ => (pe_fn (ok_are_wholes T) (hr.mono (by decide)) (pa_cons (pv 3) (pa_cons (pv 2) pa_nil))))) pa_nil))))))) (pss_one (ps_ret pe_bl)) pss_nil)))
      (pss_one (ps_ret pe_bl)))), ?_⟩
    have hnr := hN.1
    refine ⟨_, rfl, _, _, _, _, _, rfl, .ty _, .base (.tup hnr), kit_ty (r := true) (by decide +kernel), _, rfl, iteF ?_⟩
    refine ⟨_, rfl, r, _, rfl, .inr (SqT.of hnr), rfl, _, rfl, iteNF rfl ?_⟩
    refine ⟨_, rfl, (by show 3 ≤ sizeLine; decide), fun p hp => ?_⟩
    have s1 := same_new hp (o := .tup [.int 3, .int 3, .int 6])
    refine ⟨r, p, [.ref c, .ref w, .ref m], [.int 3, .int 3, .int 6], rfl, .inr ⟨SqT.of (s1 _ _ hnr), SqT.of upd_same, RZ.for_zipT (xs := [.ref c, .ref w, .ref m]) (ys := [.int 3, .int 3, .int 6]) rfl (fun i σ H' => ∃ v1 v2 : Option V, σ = [some (.ref r), v1, v2, none] ∧ Same (upd H p (.tup [.int 3, .int 3, .int 6])) H')
      ⟨none, none, rfl, Same.refl _⟩ (fun i σ H' ⟨_, _, _, s⟩ => ⟨SqT.of (s _ _ (s1 _ _ hnr)), SqT.of (s _ _ upd_same)⟩) ?_ ?_⟩⟩
    · rintro i x y Tp σ H1 hx hy ⟨v1, v2, rfl, s⟩ hT
      have w1 := same_new hT (o := .tup [x, y])
      have hrow : ∃ (l : Addr) (rs : List (List Int)) (n : Nat), x = .ref l ∧ y = nV n ∧ RowsI H l rs ∧ rs.length ≤ 1000 ∧ n ≤ 10 ∧ ∀ q ∈ rs, q.length = n := by
        have hi : i < 3 := (List.getElem?_eq_some_iff.mp hx).1
        have : i = 0 ∨ i = 1 ∨ i = 2 := by omega
        rcases this with rfl | rfl | rfl
        · cases hx; cases hy
          refine ⟨c, _, 3, rfl, rfl, hN.2.1.rows, ?_, by decide, fun q hq => ?_⟩
          · rw [List.length_map]; exact Nat.le_trans (cameL_len A B) fB
          · obtain ⟨z, _, rfl⟩ := List.mem_map.mp hq
            rfl
        · cases hx; cases hy
          refine ⟨w, _, 3, rfl, rfl, hN.2.2.1.rows, ?_, by decide, fun q hq => ?_⟩
          · rw [List.length_map]; exact Nat.le_trans (cameL_len B A) fA
          · obtain ⟨z, _, rfl⟩ := List.mem_map.mp hq
            rfl
        · cases hx; cases hy
          exact ⟨m, _, 6, rfl, rfl, hN.2.2.2, Nat.le_trans (movedL_len A B _) fB, by decide, fun q hq => (moved_mem ndB hq).2⟩
      obtain ⟨l, rs, n, rfl, rfl, ⟨ts, hl, hT1, hT2⟩, fr, fn, hq⟩ := hrow
      have sA : Same H _ := s1.trans (s.trans w1)
      have hl' := sA _ _ hl
      refine ⟨Tp, _, rfl, SqT.of upd_same, rfl, _, _, rfl, _, _, rfl, rfl, ?_⟩
      refine ⟨_, rfl, _, _, _, _, _, rfl, .ty _, .base (.lst hl'), kit_ty (r := true) (by decide +kernel), _, rfl, iteF ?_⟩
      refine ⟨_, rfl, l, rfl, ⟨_, SqL.of hl'⟩, fun D hD => lcV (walk_list (xs := RL ts)) (by rw [RL_len]; omega) hD (fun _ => .bl true) (fun H' s' => SqL.of (s' _ _ hl')) ?_ ?_⟩
      · rintro j x H2 H3 Q' hj s2 ⟨rfl, hx2⟩ k'
        obtain ⟨hb, rfl⟩ := RL_at hx2
        have hjr : j < rs.length := by rw [← hT1]; exact hb
        have hm : rs.getD j [] ∈ rs := by
          have e1 : rs.getD j [] = rs[j] := by simp [List.getD, hjr]
          rw [e1]; exact List.getElem_mem hjr
        have hln := hq _ hm
        refine ⟨rfl, _, rfl, _, rfl, ts.getD j 0, rs.getD j [], by rw [hln]; rfl, s2 _ _ (sA _ _ (hT2 j hjr)), by omega, ?_⟩
        rintro v3 H4 s3 rfl
        exact k' _ s3
      · intro H2 s2 hD2
        refine ⟨D, List.replicate (RL ts).length true, rfl, SqL.of ?_, ?_⟩
        · rw [hD2, List.map_const', List.length_range, List.map_replicate]
        · have e : (List.replicate (RL ts).length true).all id = true := by simp
          rw [e]
          exact ⟨_, rfl, iteF ⟨_, _, rfl, s.trans (w1.trans s2)⟩⟩
    · rintro σ H1 ⟨v1, v2, rfl, s⟩
      exact k _ _ (s1.trans s) rfl
end Pt
end
section
set_option maxRecDepth 100000
set_option maxHeartbeats 4000000
namespace Pt
open PySem PySem.Spec PyProof.Rows L2
def rowD (r : List Int) : PyData := .tuple (r.map .int)
def rowsD (rs : List (List Int)) : PyData := .list (rs.map rowD)
def newsD (A B : List I3) : PyData := .tuple [rowsD ((cameL A B).map toL), rowsD ((cameL B A).map toL), rowsD (movedL A B B.length)]
theorem ints_lay : ∀ r : List Int, PyData.canLayAll0 (r.map .int) = true
  | [] => by simp [PyData.canLayAll0]
  | x :: r => by simp [PyData.canLayAll0, PyData.canLay0, ints_lay r]
theorem ints_depth : ∀ r : List Int, PyData.depthAll (r.map .int) ≤ 1
  | [] => by simp [PyData.depthAll]
  | x :: r => by
    have := ints_depth r
    simp only [List.map_cons, PyData.depthAll, PyData.depth]
    omega
theorem ints_eqv : ∀ r : List Int, PyData.eqvAll (r.map .int) (r.map .int) = true
  | [] => by simp [PyData.eqvAll]
  | x :: r => by simp [PyData.eqvAll, PyData.eqv, ints_eqv r]
theorem rows_lay : ∀ rs : List (List Int), PyData.canLayAll0 (rs.map rowD) = true
  | [] => by simp [PyData.canLayAll0]
  | r :: rs => by simp [PyData.canLayAll0, rowD, PyData.canLay0, ints_lay r, rows_lay rs]
theorem rows_depth : ∀ rs : List (List Int), PyData.depthAll (rs.map rowD) ≤ 2
  | [] => by simp [PyData.depthAll]
  | r :: rs => by
    have := rows_depth rs
    have := ints_depth r
    simp only [List.map_cons, PyData.depthAll, PyData.depth, rowD]
    omega
theorem rows_eqv : ∀ rs : List (List Int), PyData.eqvAll (rs.map rowD) (rs.map rowD) = true
  | [] => by simp [PyData.eqvAll]
  | r :: rs => by simp [PyData.eqvAll, rowD, PyData.eqv, ints_eqv r, rows_eqv rs]
theorem rowsD_shaped (rs : List (List Int)) : SeqAt.shaped (rowsD rs) = true := by
  have h1 := rows_depth rs
  have h2 : PyData.depth (rowsD rs) ≤ 64 := by
    simp only [PyData.depth, rowsD]
    omega
  show (PyData.canLay0 (rowsD rs) && decide (PyData.depth (rowsD rs) ≤ 64)) = true
  rw [Bool.and_eq_true]
  exact ⟨by simp only [PyData.canLay0, rowsD]; exact rows_lay rs, decide_eq_true h2⟩
theorem rowsD_eqv (rs : List (List Int)) : PyData.eqv (rowsD rs) (rowsD rs) = true := by
  simp only [rowsD, PyData.eqv]
  exact rows_eqv rs
theorem newsD_shaped (A B : List I3) : SeqAt.shaped (newsD A B) = true := by
  have h1 := rows_depth ((cameL A B).map toL)
  have h2 := rows_depth ((cameL B A).map toL)
  have h3 := rows_depth (movedL A B B.length)
  have hd : PyData.depth (newsD A B) ≤ 64 := by
    simp only [PyData.depth, newsD, rowsD, PyData.depthAll]
    omega
  show (PyData.canLay0 (newsD A B) && decide (PyData.depth (newsD A B) ≤ 64)) = true
  rw [Bool.and_eq_true]
  refine ⟨?_, decide_eq_true hd⟩
  simp only [PyData.canLay0, newsD, rowsD, PyData.canLayAll0, rows_lay, Bool.and_true]
theorem newsD_eqv (A B : List I3) : PyData.eqv (newsD A B) (newsD A B) = true := by
  simp only [newsD, PyData.eqv, PyData.eqvAll, rowsD_eqv, Bool.and_true]
section
variable {K : PySem.W.Frag} {H : Hp}
theorem dp_ints : ∀ r : List Int, DpAll K H (r.map V.int) (r.map .int)
  | [] => .nil
  | x :: r => .cons (.int x) (dp_ints r)
theorem dp_rows : ∀ (ts : List Addr) (rs : List (List Int)), RsAt H ts rs → DpAll K H (RL ts) (rs.map rowD)
  | [], [], _ => .nil
  | [], _ :: _, h => by cases h.1
  | _ :: _, [], h => by cases h.1
  | t :: ts, r :: rs, h => by
    refine .cons (.tup (SqT.of (show H t = some (.tup (r.map V.int)) from h.2 0 (by simp))) (dp_ints r)) (dp_rows ts rs ⟨by simpa using h.1, fun i hi => ?_⟩)
    have := h.2 (i + 1) (by simpa using hi)
    simpa using this
theorem RowsI.dp {a : Addr} {rs : List (List Int)} (h : RowsI H a rs) : Dp K H (.ref a) (rowsD rs) := by
  obtain ⟨ts, h1, h2⟩ := h
  exact .lst (SqL.of h1) (dp_rows ts rs h2)
theorem NewsAt.dp {r c w m : Addr} {A B : List I3} (h : NewsAt H r c w m A B) : Dp K H (.ref r) (newsD A B) :=
  .tup (SqT.of h.1) (.cons h.2.1.rows.dp (.cons h.2.2.1.rows.dp (.cons h.2.2.2.dp .nil)))
end
def sp_followed : Sp := fun vs H Q _ => ∃ (a r c w m : Addr) (A B : List I3), vs = [.ref a, .ref r] ∧ T3 H a A ∧ NewsAt H r c w m A B ∧ NearOk A ∧ NearOk B ∧ Ret (fun v H' => ∃ b, v = .ref b ∧ H b = none ∧ T3 H' b B) H Q
abbrev sc_followed_N : List Str := ["ahead", "news", "behind"]
theorem sc_followed : FnScope sc_followed_N ["ahead", "news"] (defScope s_followed) := ⟨rfl, rfl, rfl, by decide +kernel, rfl, by decide +kernel, by decide +kernel⟩
theorem ok_followed {P : Program} {w : World} {K : PySem.W.Frag} {mg : Str → Option Value} {base : Heap} (T : Tx K mg) : Fn P w K mg base "followed" ["ahead", "news"] (6) sp_followed := by
  obtain ⟨fd, F⟩ := T.D_followed
  refine ⟨_, fd, T.g_followed, F.kp, F.bindsN (fun _ _ _ _ _ _ us hl => match us, hl with | [_, _], _ => rfl), F.ok sc_followed (fun vs H Q E h => ?_) (fun cdv A outer s H vs Q E hr h => ?_)⟩
  · (obtain ⟨a, r, c, w, m, A, B, rfl, ha, hN, hA, hB, k⟩ := h)
    rfl
  · (obtain ⟨a, r, c, w, m, A, B, rfl, ha, hN, hA, hB, k⟩ := h)
    refine ⟨_, PSs.nox (pss_cons (ps_expr (pe_fn (ok_need_ranked T) (hr.mono (by decide)) (pa_cons (pv 0) pa_nil)))
      (pss_cons (ps_if (pt_not (pt_val (pe_fn (ok_are_news T) (hr.mono (by decide)) (pa_cons (pv 1) pa_nil)))) (pss_one ps_never) pss_nil)
      (pss_cons (ps_set (i := 2) sc_followed.nd rfl (Or.inl rfl) (pe_fn (ok_led T) (hr.mono (by decide)) (pa_cons (pv 0) (pa_cons (pv 1) pa_nil))))
      (pss_cons (ps_if (PW.pt (pw_or (pt_not (pt_val (pe_fn (ok_is_ranked T) (hr.mono (by decide)) (pa_cons (pv 2) pa_nil)))) (pw_or1 (pt_cmpR (op_neD hr.units) (pe_fn (ok_difference T) (hr.mono (by decide)) (pa_cons (pv 0) (pa_cons (pv 2) pa_nil))) (pv 1) (nomark _))))) (pss_one ps_never) pss_nil)
      (pss_one (ps_ret (pv 2))))))), ?_⟩
    refine ⟨_, rfl, a, A, rfl, ha, hA, fun v1 H1 s1 e1 => ?_⟩
    refine ⟨_, rfl, r, c, w, m, A, B, rfl, hN.mono s1, hA.few, hB.few, hB.nd, ?_⟩
    rintro v2 H2 s2 rfl
    have s12 := s1.trans s2
    refine ⟨_, rfl, iteF ?_⟩
    refine ⟨_, rfl, _, rfl, a, r, c, w, m, A, B, rfl, ha.mono s12, hN.mono s12, hA, hB, ?_⟩
    rintro v3 H3 s3 ⟨b, rfl, hb, hT⟩
    have s13 := s12.trans s3
    refine ⟨_, rfl, b, B, rfl, hT, hB, ?_⟩
    rintro v4 H4 s4 rfl
    have s14 := s13.trans s4
    refine ⟨_, rfl, iteF ?_⟩
    refine ⟨_, rfl, _, rfl, a, b, A, B, rfl, ha.mono s14, hT.mono s4, hA, hB, ?_⟩
    rintro v5 H5 s5 ⟨r', c', w', m', rfl, hN', _⟩
    have s15 := s14.trans s5
    refine ⟨_, rfl, newsD A B, newsD A B, hN'.dp, (hN.mono s15).dp, newsD_shaped A B, newsD_shaped A B, ?_⟩
    rw [newsD_eqv]
    exact ⟨_, rfl, iteF ⟨_, rfl, k _ _ s15 ⟨b, rfl, s12.free hb, (hT.mono s4).mono s5⟩⟩⟩
end Pt
end
section
set_option maxRecDepth 100000
set_option maxHeartbeats 4000000
namespace Pt
open PySem PySem.Spec PyProof.Rows L2
def sp_need_letter : Sp := fun vs H Q _ => ∃ c : Nat, vs = [.str (sOf [c])] ∧ isLet c ∧ Q .non H
abbrev sc_need_letter_N : List Str := ["letter"]
theorem sc_need_letter : FnScope sc_need_letter_N ["letter"] (defScope s_need_letter) := ⟨rfl, rfl, rfl, by decide +kernel, rfl, by decide +kernel, by decide +kernel⟩
theorem ok_need_letter {P : Program} {w : World} {K : PySem.W.Frag} {mg : Str → Option Value} {base : Heap} (T : Tx K mg) : Fn P w K mg base "need_letter" ["letter"] (2) sp_need_letter := by
  obtain ⟨fd, F⟩ := T.D_need_letter
  refine ⟨_, fd, T.g_need_letter, F.kp, F.bindsN (fun _ _ _ _ _ _ us hl => match us, hl with | [_], _ => rfl), F.ok sc_need_letter (fun vs H Q E h => ?_) (fun cdv A outer s H vs Q E hr h => ?_)⟩
  · (obtain ⟨c, rfl, hc, k⟩ := h)
    rfl
  · (obtain ⟨c, rfl, hc, k⟩ := h)
    refine ⟨_, PSs.nox (pss_one (ps_if (pt_not (pt_val (pe_fn (ok_is_letter T) (hr.mono (by decide)) (pa_cons (pv 0) pa_nil)))) (pss_one ps_never) pss_nil)), ?_⟩
    refine ⟨_, rfl, c, rfl, fun b hb => ?_⟩
    have : b = true := hb.mpr hc
    subst this
    exact ⟨_, rfl, iteF k⟩
def sp_need_below : Sp := fun vs H Q _ => ∃ i m : Int, vs = [.int i, .int m] ∧ 0 ≤ i ∧ i < m ∧ Q .non H
abbrev sc_need_below_N : List Str := ["place", "many"]
theorem sc_need_below : FnScope sc_need_below_N ["place", "many"] (defScope s_need_below) := ⟨rfl, rfl, rfl, by decide +kernel, rfl, by decide +kernel, by decide +kernel⟩
theorem ok_need_below {P : Program} {w : World} {K : PySem.W.Frag} {mg : Str → Option Value} {base : Heap} (T : Tx K mg) : Fn P w K mg base "need_below" ["place", "many"] (3) sp_need_below := by
  obtain ⟨fd, F⟩ := T.D_need_below
  refine ⟨_, fd, T.g_need_below, F.kp, F.bindsN (fun _ _ _ _ _ _ us hl => match us, hl with | [_, _], _ => rfl), F.ok sc_need_below (fun vs H Q E h => ?_) (fun cdv A outer s H vs Q E hr h => ?_)⟩
  · (obtain ⟨i, m, rfl, h0, h1, k⟩ := h)
    rfl
  · (obtain ⟨i, m, rfl, h0, h1, k⟩ := h)
    refine ⟨_, PSs.nox (pss_one (ps_if (pt_not (pt_val (pe_fn (ok_is_within T) (hr.mono (by decide)) (pa_cons (pv 0) (pa_cons pe_int (pa_cons (pe_op op_sub (pv 1) pe_int) pa_nil)))))) (pss_one ps_never) pss_nil)), ?_⟩
    refine ⟨_, rfl, _, rfl, _, _, rfl, rfl, i, 0, m - 1, rfl, ?_⟩
    have e1 : (decide ((0 : Int) ≤ i) && decide (i ≤ m - 1)) = true := by rw [decide_eq_true h0, decide_eq_true (by omega)]; rfl
    rw [e1]
    exact ⟨_, rfl, iteF k⟩
abbrev wFs (x : Addr) (m : Int) (rw : Addr) : List (Str × V) := [("kept", .ref x), ("limited", .int m), ("rows", .ref rw)]
abbrev prt (l : List Nat) : List Nat := PtM.part 46 l
structure WKept (K : PySem.W.Frag) (H : Hp) (fs : List (Str × V)) (x g d : Addr) (side top : List Nat) : Prop where
  kf : fs.lookup ("kept" : Str) = some (.ref x)
  kp : KeptAt K H x g d (prt top) (prt side)
  ps : Plain side
  pt : Plain top
theorem WKept.mono {K : PySem.W.Frag} {H H' : Hp} {fs : List (Str × V)} {x g d : Addr} {side top : List Nat} (s : Same H H') (h : WKept K H fs x g d side top) : WKept K H' fs x g d side top := ⟨h.kf, h.kp.mono s, h.ps, h.pt⟩
def sp_Watch_side (K : PySem.W.Frag) : Sp := fun vs H Q _ => ∃ (w dx x g d : Addr) (fs : List (Str × V)) (side top : List Nat), vs = [.ref w] ∧ H w = some (.ins (He.ga K "Watch") dx fs) ∧ WKept K H fs x g d side top ∧ Ret (fun v _ => v = .str (sOf side)) H Q
abbrev sc_Watch_side_N : List Str := ["self"]
theorem sc_Watch_side : FnScope sc_Watch_side_N ["self"] (defScope s_Watch_side) := ⟨rfl, rfl, rfl, by decide +kernel, rfl, by decide +kernel, by decide +kernel⟩
theorem fn_Watch_side {P : Program} {w : World} {K : PySem.W.Frag} {mg : Str → Option Value} {base : Heap} (T : Tx K mg) {f : Addr} {fd : FuncData} (F : FunD K "side" "Watch.side" (defArgs s_Watch_side) (defBody s_Watch_side) (defScope s_Watch_side) [] [] f fd) : Binds K fd ["self"] [] ∧ FnOk P w K mg base CX0 (4) f fd ["self"] (sp_Watch_side K) := by
  refine ⟨F.bindsN (fun _ _ _ _ _ _ us hl => match us, hl with | [_], _ => rfl), F.ok sc_Watch_side (fun vs H Q E h => ?_) (fun cdv A outer s H vs Q E hr h => ?_)⟩
  · (obtain ⟨w, dx, x, g, d, fs, side, top, rfl, hw, hW, k⟩ := h)
    rfl
  · (obtain ⟨w, dx, x, g, d, fs, side, top, rfl, hw, hW, k⟩ := h)
    refine ⟨_, PSs.nox (pss_one (ps_ret (pe_fn (ok_unparted T) (hr.mono (by decide)) (pa_cons (pe_ms0 (pe_fld (pv 0) rfl) (ok_Kept_side T) (hr.mono (by decide))) pa_nil)))), ?_⟩
    obtain ⟨dk, rv, fr, hx, _⟩ := id hW.kp
    refine ⟨_, rfl, w, _, dx, _, _, rfl, hw, T.cl_Watch, T.na_Watch_kept, hW.kf, x, _, dk, _, rfl, hx, rfl, rfl, x, g, d, prt top, prt side, rfl, hW.kp, side, rfl, hW.ps, ?_⟩
    intro v H1 s e
    exact k _ _ s e
theorem ok_Watch_side {P : Program} {w : World} {K : PySem.W.Frag} {mg : Str → Option Value} {base : Heap} (T : Tx K mg) : ∀ C, C = He.ga K "Watch" → Mt P w K mg base C "side" ["self"] (4) (sp_Watch_side K) := by
  intro C hC
  subst hC
  obtain ⟨fd, F⟩ := T.D_Watch_side
  obtain ⟨b, G⟩ := fn_Watch_side (P := P) (w := w) (base := base) T F
  exact ⟨_, fd, T.cl_Watch, T.m_Watch_side, b, G⟩
def sp_Watch_top (K : PySem.W.Frag) : Sp := fun vs H Q _ => ∃ (w dx x g d : Addr) (fs : List (Str × V)) (side top : List Nat), vs = [.ref w] ∧ H w = some (.ins (He.ga K "Watch") dx fs) ∧ WKept K H fs x g d side top ∧ Ret (fun v _ => v = .str (sOf top)) H Q
abbrev sc_Watch_top_N : List Str := ["self"]
theorem sc_Watch_top : FnScope sc_Watch_top_N ["self"] (defScope s_Watch_top) := ⟨rfl, rfl, rfl, by decide +kernel, rfl, by decide +kernel, by decide +kernel⟩
theorem fn_Watch_top {P : Program} {w : World} {K : PySem.W.Frag} {mg : Str → Option Value} {base : Heap} (T : Tx K mg) {f : Addr} {fd : FuncData} (F : FunD K "top" "Watch.top" (defArgs s_Watch_top) (defBody s_Watch_top) (defScope s_Watch_top) [] [] f fd) : Binds K fd ["self"] [] ∧ FnOk P w K mg base CX0 (4) f fd ["self"] (sp_Watch_top K) := by
  refine ⟨F.bindsN (fun _ _ _ _ _ _ us hl => match us, hl with | [_], _ => rfl), F.ok sc_Watch_top (fun vs H Q E h => ?_) (fun cdv A outer s H vs Q E hr h => ?_)⟩
  · (obtain ⟨w, dx, x, g, d, fs, side, top, rfl, hw, hW, k⟩ := h)
    rfl
  · (obtain ⟨w, dx, x, g, d, fs, side, top, rfl, hw, hW, k⟩ := h)
    refine ⟨_, PSs.nox (pss_one (ps_ret (pe_fn (ok_unparted T) (hr.mono (by decide)) (pa_cons (pe_ms0 (pe_fld (pv 0) rfl) (ok_Kept_top T) (hr.mono (by decide))) pa_nil)))), ?_⟩
    obtain ⟨dk, rv, fr, hx, _⟩ := id hW.kp
    refine ⟨_, rfl, w, _, dx, _, _, rfl, hw, T.cl_Watch, T.na_Watch_kept, hW.kf, x, _, dk, _, rfl, hx, rfl, rfl, x, g, d, prt top, prt side, rfl, hW.kp, top, rfl, hW.pt, ?_⟩
    intro v H1 s e
    exact k _ _ s e
theorem ok_Watch_top {P : Program} {w : World} {K : PySem.W.Frag} {mg : Str → Option Value} {base : Heap} (T : Tx K mg) : ∀ C, C = He.ga K "Watch" → Mt P w K mg base C "top" ["self"] (4) (sp_Watch_top K) := by
  intro C hC
  subst hC
  obtain ⟨fd, F⟩ := T.D_Watch_top
  obtain ⟨b, G⟩ := fn_Watch_top (P := P) (w := w) (base := base) T F
  exact ⟨_, fd, T.cl_Watch, T.m_Watch_top, b, G⟩
theorem plen {l : List Nat} (h : Plain l) : (sOf l).length ≤ sizeLine := by rw [sOf_len]; exact big _ (by have := h.1; omega)
theorem dbl (n : Nat) : V.int (2 * (n : Int)) = nV (2 * n) := by
  have : (2 * (n : Int)) = ((2 * n : Nat) : Int) := by omega
  rw [this]; rfl
theorem cost_win {a b : List Nat} {t : List Nat} (h : PtM.PcOk (prt a) (prt b) t) {i k : Nat} (hk : i + k ≤ b.length) :
    ((a.length : Int) + (k : Int) - (((2 * (i + k) : Nat) : Int) - ((2 * i : Nat) : Int) - (PtM.cnt t (2 * a.length + 2 * i) (2 * (i + k)) : Nat))) = PtM.cost 46 a ((b.drop i).take k) := by
  have lb : (prt b).length = 2 * b.length := PtM.part_len 46 b
  have la : (prt a).length = 2 * a.length := PtM.part_len 46 a
  have w := h.win (2 * i) (2 * (i + k)) (by omega) (by omega)
  rw [la, PtM.part_take, PtM.part_drop, List.drop_take] at w
  have e : i + k - i = k := by omega
  rw [e] at w
  unfold prt at w
  unfold PtM.cost
  have l2 : ((b.drop i).take k).length = k := by rw [List.length_take, List.length_drop]; omega
  rw [l2]
  omega
theorem int_range {l : List Int} {n : Nat} (h : l.length = n) : (List.range n).map (fun j => V.int (l.getD j 0)) = l.map V.int := by
  subst h
  refine List.ext_getElem (by simp) fun j h1 h2 => ?_
  have hj : j < l.length := by simpa using h2
  simp [List.getD, hj]
theorem Lne {H : Hp} {cl t : Addr} {cs : List Addr} {r : List Int} (hC : H cl = some (.lst (RL cs))) (h0 : 0 < cs.length) (e : H t = some (.lst (r.map V.int))) : t ≠ cl := by
  rintro rfl
  rw [hC] at e
  have e2 : RL cs = r.map V.int := HO.lst.inj (Option.some.inj e)
  cases cs with
  | nil => simp at h0
  | cons _ _ =>
    cases r with
    | nil => cases e2
    | cons _ _ => exact absurd (List.cons.inj e2).1 (fun z => by cases z)
def sp_Watch_reckoned (K : PySem.W.Frag) : Sp := fun vs H Q _ => ∃ (w dx x g d : Addr) (fs : List (Str × V)) (side top : List Nat) (m : Int), vs = [.ref w] ∧ H w = some (.ins (He.ga K "Watch") dx fs) ∧ WKept K H fs x g d side top ∧ fs.lookup ("limited" : Str) = some (.int m) ∧ fs.lookup ("side" : Str) = none ∧ fs.lookup ("top" : Str) = none ∧
  Ret (fun v H' => ∃ r rows, v = .ref r ∧ H r = none ∧ T3 H' r rows ∧ Near (costTab side top) m rows) H Q
abbrev sc_Watch_reckoned_N : List Str := ["self", "many", "wide", "asks", "costs", "begin", "far"]
theorem sc_Watch_reckoned : FnScope sc_Watch_reckoned_N ["self"] (defScope s_Watch_reckoned) := ⟨rfl, rfl, rfl, by decide +kernel, rfl, by decide +kernel, by decide +kernel⟩
theorem fn_Watch_reckoned {P : Program} {w : World} {K : PySem.W.Frag} {mg : Str → Option Value} {base : Heap} (T : Tx K mg) {f : Addr} {fd : FuncData} (F : FunD K "reckoned" "Watch.reckoned" (defArgs s_Watch_reckoned) (defBody s_Watch_reckoned) (defScope s_Watch_reckoned) [] [] f fd) : Binds K fd ["self"] [] ∧ FnOk P w K mg base CX0 (9) f fd ["self"] (sp_Watch_reckoned K) := by
  refine ⟨F.bindsN (fun _ _ _ _ _ _ us hl => match us, hl with | [_], _ => rfl), F.ok sc_Watch_reckoned (fun vs H Q E h => ?_) (fun cdv A outer s H vs Q E hr h => ?_)⟩
  · (obtain ⟨w, dx, x, g, d, fs, side, top, m, rfl, hw, hW, hfm, hfs, hft, k⟩ := h)
    rfl
  · (obtain ⟨w, dx, x, g, d, fs, side, top, m, rfl, hw, hW, hfm, hfs, hft, k⟩ := h)
    refine ⟨_, PSs.nox (pss_cons (ps_set (i := 1) sc_Watch_reckoned.nd rfl (Or.inr rfl) (pe_callB call_len_str (by rfl) T.z_len (by decide +kernel) (pa_cons (pe_ms0 (pv 0) (ok_Watch_side T) (hr.mono (by decide))) pa_nil)))
      (pss_cons (ps_set (i := 2) sc_Watch_reckoned.nd rfl (Or.inl rfl) (pe_callB call_len_str (by rfl) T.z_len (by decide +kernel) (pa_cons (pe_ms0 (pv 0) (ok_Watch_top T) (hr.mono (by decide))) pa_nil)))
      (pss_cons (ps_set (i := 3) sc_Watch_reckoned.nd rfl (Or.inr rfl) (pe_nw (new_Asks T) (hr.mono (by decide)) (pa_cons (pe_ms0 (pe_fld (pv 0) rfl) (ok_Kept_lines T) (hr.mono (by decide))) (pa_cons (pe_op op_mul pe_int (pv 1)) pa_nil))))
      (pss_cons (ps_set (i := 4) sc_Watch_reckoned.nd rfl (Or.inl rfl) (pe_lst pa_nil))
      (pss_cons (ps_for PassesOwn.never rfl (pi_range1 rfl T.z_range (pa_cons (pe_op op_add (pv 2) pe_int) pa_nil)) (pg_name (i := 5) sc_Watch_reckoned.nd rfl (Or.inr rfl))
      (pss_one (ps_expr (pe_bm PySem.F.plainAttrs_list PySem.F.slot_list_append PySem.F.type_list_append mt_append (pv 4) (pa_cons (pe_lc (own := [("far", 6)]) rfl sc_Watch_reckoned.nd (pi_range1 rfl T.z_range (pa_cons (pe_op op_sub (pe_op op_add (pv 2) pe_int) (pv 5)) pa_nil)) (blkOk_by (N := sc_Watch_reckoned_N) (sc := defScope s_Watch_reckoned) (by decide +kernel)) (fun _ _ _ _ _ => (pg_name (i := 6) sc_Watch_reckoned.nd rfl (Or.inl rfl))) (fun _ _ _ _ _ => pts_nil) (fun _ _ _ _ _ => (pe_op op_sub (pe_op op_add (pv 1) (pv 6)) (pe_ms (pv 3) (ok_Asks_stretch T) (hr.mono (by decide)) (pa_cons (pe_op op_mul pe_int (pv 5)) (pa_cons (pe_op op_mul pe_int (pe_op op_add (pv 5) (pv 6))) pa_nil)))))) pa_nil)))))
      (pss_one (ps_ret (pe_fn (ok_ranked T) (hr.mono (by decide)) (pa_cons (pv 4) (pa_cons (pe_fld (pv 0) rfl) pa_nil)))))))))), ?_⟩
    have zs := hW.ps.1
    have zt := hW.pt.1
    have la : (prt side).length = 2 * side.length := PtM.part_len 46 side
    have lb : (prt top).length = 2 * top.length := PtM.part_len 46 top
    refine ⟨_, rfl, w, _, dx, _, rfl, hw, rfl, hfs, w, dx, x, g, d, fs, side, top, rfl, hw, hW, ?_⟩
    rintro v1 H1 s1 rfl
    refine ⟨_, rfl, plen hW.ps, ?_⟩
    rw [sOf_len]
    refine ⟨_, rfl, w, _, dx, _, rfl, s1 _ _ hw, rfl, hft, w, dx, x, g, d, fs, side, top, rfl, s1 _ _ hw, hW.mono s1, ?_⟩
    rintro v2 H2 s2 rfl
    have s12 := s1.trans s2
    refine ⟨_, rfl, plen hW.pt, ?_⟩
    rw [sOf_len]
    obtain ⟨dk, rv, fr, hx, _⟩ := id (hW.kp.mono s12)
    refine ⟨_, rfl, w, _, dx, _, _, rfl, s12 _ _ hw, T.cl_Watch, T.na_Watch_kept, hW.kf, x, _, dk, _, rfl, hx, rfl, rfl, x, g, d, prt top, prt side, rfl, hW.kp.mono s12, ?_⟩
    rintro v3 H3 s3 ⟨l, t, rfl, hl, ok⟩
    have s13 := s12.trans s3
    have lt := ok.len
    refine ⟨_, rfl, _, _, rfl, rfl, .inl ⟨by decide, by decide⟩, fun y dy hy hdy hne => ?_⟩
    have sm := same_make hy hdy (o1 := .own y) (o2 := .ins (He.ga K "Asks") dy [])
    refine ⟨y, l, dy, t, 2 * side.length, congrArg (fun z => [V.ref y, V.ref l, z]) (dbl side.length), upd_same, sm _ _ hl, ok.turn, by omega, by omega, fun H4 s4 hA => ⟨rfl, ?_⟩⟩
    have s14 := s13.trans (sm.trans s4)
    refine ⟨Nat.zero_le _, fun cl hcl => ?_⟩
    have hcl0 : H cl = none := s14.free hcl
    have w5 := same_new hcl (o := .lst [])
    have hA5 := hA.mono w5
    obtain ⟨dya, tl, gg, st, ya, _⟩ := id hA5
    refine ⟨_, rfl, _, _, rfl, rfl, (top.length : Int) + 1, rfl, by omega, by omega, for_range (fun i σ H' => ∃ (v5 : Option V) (cs : List Addr), σ = [some (.ref w), some (nV side.length), some (nV top.length), some (.ref y), some (.ref cl), v5, none] ∧ Same H H' ∧ Same H4 H' ∧ H' cl = some (.lst (RL cs)) ∧ cs.length = i ∧ ∀ j, j < i → H' (cs.getD j 0) = some (.lst (((costTab side top).getD j []).map V.int)))
      ⟨none, [], rfl, s14.trans w5, w5, upd_same, rfl, fun j hj => absurd hj (Nat.not_lt_zero _)⟩ ?_ ?_⟩
    · rintro i σ H5 hi ⟨v5, cs, rfl, s, sA4, hC, hcs, hcj⟩
      have hAk := hA.mono sA4
      have hi : i < top.length + 1 := by omega
      have ln : (((top.length : Int) + 1) - (0 + (i : Int))).toNat = top.length + 1 - i := by omega
      refine ⟨_, rfl, .inl ⟨rfl, _, SqL.of hC⟩, _, rfl, _, _, rfl, rfl, _, rfl, _, _, rfl, rfl, ((top.length : Int) + 1) - (0 + (i : Int)), rfl, by omega, by omega, fun D hD => lcV (walk_range (n := (((top.length : Int) + 1) - (0 + (i : Int))).toNat)) (by omega) hD (fun j => .int (((costTab side top).getD i []).getD j 0)) (fun _ _ => trivial) ?_ ?_⟩
      · rintro j x H6 H7 Q' hj s6 ⟨rfl, rfl⟩ k'
        rw [ln] at hj
        have hA6 := hAk.mono s6
        obtain ⟨dya, tl, gg, st, ya, _⟩ := id hA6
        refine ⟨rfl, _, rfl, _, rfl, _, _, rfl, rfl, _, rfl, y, _, dya, _, rfl, ya, rfl, rfl, _, rfl, _, _, rfl, rfl, .inl ⟨by decide, by decide⟩, _, rfl, _, rfl, _, _, rfl, rfl, _, _, rfl, rfl, .inl ⟨by decide, by decide⟩, y, t, 2 * side.length, 2 * i, 2 * (i + j), ?_, hA6, by omega, by omega, by omega, ?_⟩
        · have e1 : (2 : Int) * (0 + (i : Int)) = ((2 * i : Nat) : Int) := by omega
          have e2 : (2 : Int) * ((0 + (i : Int)) + (0 + (j : Int))) = ((2 * (i + j) : Nat) : Int) := by omega
          show [V.ref y, V.int ((2 : Int) * (0 + (i : Int))), V.int ((2 : Int) * ((0 + (i : Int)) + (0 + (j : Int))))] = _
          rw [e1, e2]
          rfl
        · rintro v8 H8 s8 rfl
          refine ⟨_, _, rfl, rfl, vcast ?_ (k' _ s8)⟩
          have cw := cost_win ok (i := i) (k := j) (by omega)
          rw [costTab_at side top (by omega), ← cw]
          show V.int _ = V.int _
          congr 1
          omega
      · intro H6 s6 hD6
        rw [ln] at hD6
        have hrow := int_range (costTab_rlen side top i)
        rw [hrow] at hD6
        have hC6 := s6 _ _ hC
        refine ⟨cl, _, _, rfl, rfl, hC6, bigS _ (by rw [RL_len]; omega), ?_⟩
        have hDcl : cl ≠ D := ne_of_none hC hD
        refine ⟨_, cs ++ [D], rfl, same_upd (s.trans s6) hcl0, same_upd (sA4.trans s6) hcl, by rw [upd_same]; simp [RL], by simp; omega, fun j hj => ?_⟩
        · rw [getD_snoc, hcs]
          by_cases c : j < i
          · rw [if_pos c]
            have q := s6 _ _ (hcj j c)
            exact (upd_ne (Lne hC6 (by omega) q)).trans q
          · have : j = i := by omega
            subst this
            rw [if_neg c, if_pos rfl]
            exact (upd_ne hDcl.symm).trans hD6
    · rintro σ H5 ⟨v5, cs, rfl, s, hAk, hC, hcs, hcj⟩
      have en : ((top.length : Int) + 1 - 0).toNat = top.length + 1 := by omega
      have en' : ((top.length : Int) + 1).toNat = top.length + 1 := by omega
      rw [en'] at hcs hcj
      refine ⟨_, rfl, _, rfl, w, _, dx, _, _, rfl, s _ _ hw, T.cl_Watch, T.na_Watch_limited, hfm, cl, costTab side top, m, rfl, ⟨cs, hC, by rw [hcs, costTab_len], fun j hj => hcj j (by rw [costTab_len] at hj; exact hj)⟩, by rw [costTab_len]; omega, fun b => by rw [costTab_rlen]; omega, ?_⟩
      rintro v6 H6 s6 ⟨r, rows, rfl, hr, hT, hn⟩
      exact k _ _ (s.trans s6) ⟨r, rows, rfl, s.free hr, hT, hn⟩
theorem ok_Watch_reckoned {P : Program} {w : World} {K : PySem.W.Frag} {mg : Str → Option Value} {base : Heap} (T : Tx K mg) : ∀ C, C = He.ga K "Watch" → Mt P w K mg base C "reckoned" ["self"] (9) (sp_Watch_reckoned K) := by
  intro C hC
  subst hC
  obtain ⟨fd, F⟩ := T.D_Watch_reckoned
  obtain ⟨b, G⟩ := fn_Watch_reckoned (P := P) (w := w) (base := base) T F
  exact ⟨_, fd, T.cl_Watch, T.m_Watch_reckoned, b, G⟩
end Pt
end
section
set_option maxRecDepth 100000
set_option maxHeartbeats 4000000
namespace Pt
open PySem PySem.Spec PyProof.Rows L2
def WatchAt (K : PySem.W.Frag) (H : Hp) (w x g d : Addr) (side top : List Nat) (m : Int) (rows : List I3) : Prop :=
  ∃ (dx rw : Addr), H w = some (.ins (He.ga K "Watch") dx (wFs x m rw)) ∧ KeptAt K H x g d (prt top) (prt side) ∧ T3 H rw rows ∧ Near (costTab side top) m rows ∧ Plain side ∧ Plain top ∧ 0 ≤ m ∧ m ≤ 48
theorem WatchAt.mono {K : PySem.W.Frag} {H H' : Hp} {w x g d : Addr} {side top : List Nat} {m : Int} {rows : List I3} (s : Same H H') (h : WatchAt K H w x g d side top m rows) : WatchAt K H' w x g d side top m rows :=
  let ⟨dx, rw, h1, h2, h3, h4⟩ := h; ⟨dx, rw, s _ _ h1, h2.mono s, h3.mono s, h4⟩
theorem T3.f {H H' : Hp} {a : Addr} {ps : List I3} (s : SameF H H') (h : T3 H a ps) : T3 H' a ps := let ⟨ts, h1, h2⟩ := h; ⟨ts, s _ _ h1 trivial, h2.1, fun i hi => s _ _ (h2.2 i hi) trivial⟩
theorem KeptAt.hideI {K : PySem.W.Frag} {H : Hp} {x g d w C dx : Addr} {top side : List Nat} {fs : List (Str × V)} (h : KeptAt K H x g d top side) (e : H w = some (.ins C dx fs)) (n : fs.lookup ("against" : Str) = none) (n1 : fs.lookup ("grower" : Str) = none) (n2 : ¬ FixO (.ins C dx fs)) : KeptAt K (hide w H) x g d top side := by
  obtain ⟨dk, rv, fr, h1, h2, h3⟩ := h
  refine ⟨dk, rv, fr, hide_of h1 ?_, h2.hideI e n n2, h3.f (sameF_hide e n2)⟩
  rintro rfl
  rw [e] at h1
  injection h1 with h1
  injection h1 with _ _ h1
  subst h1
  cases n1
theorem WatchAt.wk {K : PySem.W.Frag} {H : Hp} {w x g d : Addr} {side top : List Nat} {m : Int} {rows : List I3} (h : WatchAt K H w x g d side top m rows) : ∃ dx rw, H w = some (.ins (He.ga K "Watch") dx (wFs x m rw)) ∧ WKept K H (wFs x m rw) x g d side top :=
  let ⟨dx, rw, h1, h2, _, _, h5, h6, _⟩ := h; ⟨dx, rw, h1, rfl, h2, h5, h6⟩
def sp_Watch_init (K : PySem.W.Frag) : Sp := fun vs H Q _ => ∃ (w dx : Addr) (side top : List Nat) (m : Int), vs = [.ref w, .str (sOf side), .str (sOf top), .int m] ∧ H w = some (.ins (He.ga K "Watch") dx []) ∧ Plain side ∧ Plain top ∧ 0 ≤ m ∧ m ≤ 48 ∧
  ∀ H' x g d rows, Same (hide w H) H' → H x = none → H g = none → H d = none → WatchAt K H' w x g d side top m rows → Q .non H'
abbrev sc_Watch_init_N : List Str := ["self", "side", "top", "most"]
theorem sc_Watch_init : FnScope sc_Watch_init_N ["self", "side", "top", "most"] (defScope s_Watch_init) := ⟨rfl, rfl, rfl, by decide +kernel, rfl, by decide +kernel, by decide +kernel⟩
theorem fn_Watch_init {P : Program} {w : World} {K : PySem.W.Frag} {mg : Str → Option Value} {base : Heap} (T : Tx K mg) {f : Addr} {fd : FuncData} (F : FunD K "__init__" "Watch.__init__" (defArgs s_Watch_init) (defBody s_Watch_init) (defScope s_Watch_init) [] [] f fd) : Binds K fd ["self", "side", "top", "most"] [] ∧ FnOk P w K mg base CX0 (112) f fd ["self", "side", "top", "most"] (sp_Watch_init K) := by
  refine ⟨F.bindsN (fun _ _ _ _ _ _ us hl => match us, hl with | [_, _, _, _], _ => rfl), F.ok sc_Watch_init (fun vs H Q E h => ?_) (fun cdv A outer s H vs Q E hr h => ?_)⟩
  · (obtain ⟨w, dx, side, top, m, rfl, hw, ps, pt, h0, h1, k⟩ := h)
    rfl
  · (obtain ⟨w, dx, side, top, m, rfl, hw, ps, pt, h0, h1, k⟩ := h)
    refine ⟨_, PSs.nox (pss_cons (ps_expr (pe_fn (ok_need_plain T) (hr.mono (by decide)) (pa_cons (pv 1) pa_nil)))
      (pss_cons (ps_expr (pe_fn (ok_need_plain T) (hr.mono (by decide)) (pa_cons (pv 2) pa_nil)))
      (pss_cons (ps_expr (pe_fn (ok_need_limit T) (hr.mono (by decide)) (pa_cons (pv 3) pa_nil)))
      (pss_cons (ps_fld (pv 0) (pe_nw (new_Kept T) (hr.mono (by decide)) (pa_cons (pe_fn (ok_parted T) (hr.mono (by decide)) (pa_cons (pv 1) pa_nil)) (pa_cons (pe_fn (ok_parted T) (hr.mono (by decide)) (pa_cons (pv 2) pa_nil)) pa_nil))) rfl)
      (pss_cons (ps_fld (pv 0) (pv 3) rfl)
      (pss_one (ps_fld (pv 0) (pe_ms0 (pv 0) (ok_Watch_reckoned T) (hr.mono (by decide))) rfl))))))), ?_⟩
    have hw0 : hide w H w = none := by unfold hide; rw [if_pos rfl]
    have cl := T.cl_Watch
    refine ⟨_, rfl, side, rfl, ps, fun v1 H1 s1 e1 => ?_⟩
    refine ⟨_, rfl, top, rfl, pt, fun v2 H2 s2 e2 => ?_⟩
    refine ⟨_, rfl, m, rfl, h0, h1, ?_⟩
    refine ⟨_, rfl, side, rfl, ps, ?_⟩
    rintro v3 H3 s3 rfl
    refine ⟨_, rfl, top, rfl, pt, ?_⟩
    rintro v4 H4 s4 rfl
    have s14 := (s1.trans s2).trans (s3.trans s4)
    refine fun x dk hx hdk hne => ?_
    have sm := same_make hx hdk (o1 := .own x) (o2 := .ins (He.ga K "Kept") dk [])
    refine ⟨x, dk, prt side, prt top, rfl, upd_same, part_plain_row ps, part_plain_row pt, fun H5 g d s5 hg hd hK => ⟨rfl, ?_⟩⟩
    have s15 := s14.trans (sm.trans s5)
    have hw5 := s15 _ _ hw
    have hx0 : H x = none := s14.free hx
    have hgx : g ≠ x := fun z => by subst z; rw [upd_same] at hg; cases hg
    have hdx : d ≠ x := fun z => by subst z; rw [upd_same] at hd; cases hd
    have fr : ∀ {a : Addr}, (upd (upd H4 dk (.own x)) x (.ins (He.ga K "Kept") dk [])) a = none → a ≠ x → H a = none := fun {a} e n => by
      rw [upd_ne n] at e
      by_cases z : a = dk
      · rw [z]; exact s14.free hdk
      · rw [upd_ne z] at e
        exact s14.free e
    have hg0 := fr hg hgx
    have hd0 := fr hd hdx
    refine ⟨_, rfl, w, _, dx, _, rfl, hw5, cl, T.na_Watch_kept, by simp, ?_⟩
    rw [putF_nil]
    refine ⟨_, rfl, _, rfl, w, _, dx, _, rfl, upd_same, cl, T.na_Watch_limited, by simp, ?_⟩
    rw [putF_ne (by decide), putF_nil]
    have sw : Same (hide w H5) (upd (upd H5 w (.ins (He.ga K "Watch") dx [("kept", .ref x)])) w (.ins (He.ga K "Watch") dx [("kept", .ref x), ("limited", .int m)])) := same_upd (same_over (x := w)) (by unfold hide; rw [if_pos rfl])
    have hK7 := (hK.hideI hw5 rfl rfl Bool.false_ne_true).mono sw
    refine ⟨_, rfl, w, _, dx, _, rfl, upd_same, rfl, rfl, w, dx, x, g, d, _, side, top, m, rfl, upd_same, ⟨rfl, hK7, ps, pt⟩, rfl, rfl, rfl, ?_⟩
    rintro v8 H8 s8 ⟨r, rows, rfl, hr, hT, hN⟩
    have hw8 := s8 _ _ (upd_same (a := w) (o := .ins (He.ga K "Watch") dx [("kept", .ref x), ("limited", .int m)]))
    refine ⟨_, rfl, w, _, dx, _, rfl, hw8, cl, T.na_Watch_rows, by simp, ?_⟩
    rw [putF_ne (by decide), putF_ne (by decide), putF_nil]
    have f9 : SameF H8 (upd H8 w (.ins (He.ga K "Watch") dx (wFs x m r))) := (sameF_hide hw8 Bool.false_ne_true).trans (same_f same_over)
    have hK9 := ((hK7.mono s8).hideI hw8 rfl rfl Bool.false_ne_true).mono (same_over (o := .ins (He.ga K "Watch") dx (wFs x m r)))
    refine k _ x g d rows ?_ hx0 hg0 hd0 ⟨dx, r, upd_same, hK9, hT.f f9, hN, ps, pt, h0, h1⟩
    refine same_upd ?_ hw0
    exact fun y o e => s8 _ _ (sw _ _ (hide_of (s15 _ _ (of_hide e).1) (of_hide e).2))
theorem new_Watch {P : Program} {w : World} {K : PySem.W.Frag} {mg : Str → Option Value} {base : Heap} (T : Tx K mg) : Nw P w K mg base "Watch" (He.ga K "Watch") ["self", "side", "top", "most"] (112) (sp_Watch_init K) := by
  obtain ⟨fd, F⟩ := T.D_Watch_init
  obtain ⟨b, G⟩ := fn_Watch_init (P := P) (w := w) (base := base) T F
  exact ⟨_, fd, T.g_Watch, T.mk_Watch, b, G⟩
def sp_Watch_most (K : PySem.W.Frag) : Sp := fun vs H Q _ => ∃ (w x g d : Addr) (side top : List Nat) (m : Int) (rows : List I3), vs = [.ref w] ∧ WatchAt K H w x g d side top m rows ∧ Q (.int m) H
abbrev sc_Watch_most_N : List Str := ["self"]
theorem sc_Watch_most : FnScope sc_Watch_most_N ["self"] (defScope s_Watch_most) := ⟨rfl, rfl, rfl, by decide +kernel, rfl, by decide +kernel, by decide +kernel⟩
theorem fn_Watch_most {P : Program} {w : World} {K : PySem.W.Frag} {mg : Str → Option Value} {base : Heap} (T : Tx K mg) {f : Addr} {fd : FuncData} (F : FunD K "most" "Watch.most" (defArgs s_Watch_most) (defBody s_Watch_most) (defScope s_Watch_most) [] [] f fd) : Binds K fd ["self"] [] ∧ FnOk P w K mg base CX0 (1) f fd ["self"] (sp_Watch_most K) := by
  refine ⟨F.bindsN (fun _ _ _ _ _ _ us hl => match us, hl with | [_], _ => rfl), F.ok sc_Watch_most (fun vs H Q E h => ?_) (fun cdv A outer s H vs Q E hr h => ?_)⟩
  · (obtain ⟨w, x, g, d, side, top, m, rows, rfl, ⟨dx, rw, hw, _⟩, k⟩ := h)
    rfl
  · (obtain ⟨w, x, g, d, side, top, m, rows, rfl, ⟨dx, rw, hw, _⟩, k⟩ := h)
    refine ⟨_, PSs.nox (pss_one (ps_ret (pe_fld (pv 0) rfl))), ?_⟩
    exact ⟨_, rfl, w, _, dx, _, _, rfl, hw, T.cl_Watch, T.na_Watch_limited, rfl, k⟩
theorem ok_Watch_most {P : Program} {w : World} {K : PySem.W.Frag} {mg : Str → Option Value} {base : Heap} (T : Tx K mg) : ∀ C, C = He.ga K "Watch" → Mt P w K mg base C "most" ["self"] (1) (sp_Watch_most K) := by
  intro C hC
  subst hC
  obtain ⟨fd, F⟩ := T.D_Watch_most
  obtain ⟨b, G⟩ := fn_Watch_most (P := P) (w := w) (base := base) T F
  exact ⟨_, fd, T.cl_Watch, T.m_Watch_most, b, G⟩
def sp_Watch_told (K : PySem.W.Frag) : Sp := fun vs H Q _ => ∃ (w x g d : Addr) (side top : List Nat) (m : Int) (rows : List I3), vs = [.ref w] ∧ WatchAt K H w x g d side top m rows ∧ Ret (fun v H' => ∃ r, v = .ref r ∧ H r = none ∧ T3 H' r rows) H Q
abbrev sc_Watch_told_N : List Str := ["self"]
theorem sc_Watch_told : FnScope sc_Watch_told_N ["self"] (defScope s_Watch_told) := ⟨rfl, rfl, rfl, by decide +kernel, rfl, by decide +kernel, by decide +kernel⟩
theorem fn_Watch_told {P : Program} {w : World} {K : PySem.W.Frag} {mg : Str → Option Value} {base : Heap} (T : Tx K mg) {f : Addr} {fd : FuncData} (F : FunD K "told" "Watch.told" (defArgs s_Watch_told) (defBody s_Watch_told) (defScope s_Watch_told) [] [] f fd) : Binds K fd ["self"] [] ∧ FnOk P w K mg base CX0 (1) f fd ["self"] (sp_Watch_told K) := by
  refine ⟨F.bindsN (fun _ _ _ _ _ _ us hl => match us, hl with | [_], _ => rfl), F.ok sc_Watch_told (fun vs H Q E h => ?_) (fun cdv A outer s H vs Q E hr h => ?_)⟩
  · (obtain ⟨w, x, g, d, side, top, m, rows, rfl, ⟨dx, rw, hw, _, ⟨ts, ht, hT⟩, _⟩, k⟩ := h)
    rfl
  · (obtain ⟨w, x, g, d, side, top, m, rows, rfl, ⟨dx, rw, hw, _, ⟨ts, ht, hT⟩, _⟩, k⟩ := h)
    refine ⟨_, PSs.nox (pss_one (ps_ret (pe_callTy call_list_of (by rfl) T.z_list (by decide +kernel) (pa_cons (pe_fld (pv 0) rfl) pa_nil)))), ?_⟩
    exact ⟨_, rfl, w, _, dx, _, _, rfl, hw, T.cl_Watch, T.na_Watch_rows, rfl, rw, _, rfl, .inl (SqL.of ht), fun p hp => k _ _ (same_new hp) ⟨p, rfl, hp, ts, upd_same, hT.mono (same_new hp)⟩⟩
theorem ok_Watch_told {P : Program} {w : World} {K : PySem.W.Frag} {mg : Str → Option Value} {base : Heap} (T : Tx K mg) : ∀ C, C = He.ga K "Watch" → Mt P w K mg base C "told" ["self"] (1) (sp_Watch_told K) := by
  intro C hC
  subst hC
  obtain ⟨fd, F⟩ := T.D_Watch_told
  obtain ⟨b, G⟩ := fn_Watch_told (P := P) (w := w) (base := base) T F
  exact ⟨_, fd, T.cl_Watch, T.m_Watch_told, b, G⟩
def NewRw (K : PySem.W.Frag) (Z : Hp) (w : Addr) (H : Hp) : Prop := ∃ dx x m rw, Z w = some (.ins (He.ga K "Watch") dx (wFs x m rw)) ∧ H rw = none
theorem hide_none {p b : Addr} {H : Hp} (h : H b = none) : hide p H b = none := by
  unfold hide
  split
  · rfl
  · exact h
abbrev hid3 (c a b : Addr) (H : Hp) : Hp := hide c (hide a (hide b H))
theorem same_hid3 {c a b : Addr} {H H' : Hp} (s : Same H H') (hc : H c = none) (ha : H a = none) (hb : H b = none) : Same H (hid3 c a b H') := same_hide (same_hide (same_hide s hb) ha) hc
abbrev NewsQ (P : Hp → Prop) (A B : List I3) (v : V) (H' : Hp) : Prop := ∃ r c a b, v = .ref r ∧ NewsAt H' r c a b A B ∧ c ≠ a ∧ c ≠ b ∧ a ≠ b ∧ P (hid3 c a b H')
def sp_Watch_news (K : PySem.W.Frag) : Sp := fun vs H Q _ => ∃ (w dx x g d rw : Addr) (side top : List Nat) (m : Int) (A : List I3), vs = [.ref w] ∧ H w = some (.ins (He.ga K "Watch") dx (wFs x m rw)) ∧ KeptAt K H x g d (prt top) (prt side) ∧ T3 H rw A ∧ NearOk A ∧ Plain side ∧ Plain top ∧ 0 ≤ m ∧ m ≤ 48 ∧
  ∀ v H' B, NewsQ (fun Z => Same (hide w H) Z ∧ WatchAt K Z w x g d side top m B ∧ NewRw K Z w (hide w H)) A B v H' → Q v H'
abbrev sc_Watch_news_N : List Str := ["self", "ahead"]
theorem sc_Watch_news : FnScope sc_Watch_news_N ["self"] (defScope s_Watch_news) := ⟨rfl, rfl, rfl, by decide +kernel, rfl, by decide +kernel, by decide +kernel⟩
theorem fn_Watch_news {P : Program} {w : World} {K : PySem.W.Frag} {mg : Str → Option Value} {base : Heap} (T : Tx K mg) {f : Addr} {fd : FuncData} (F : FunD K "news" "Watch.news" (defArgs s_Watch_news) (defBody s_Watch_news) (defScope s_Watch_news) [] [] f fd) : Binds K fd ["self"] [] ∧ FnOk P w K mg base CX0 (10) f fd ["self"] (sp_Watch_news K) := by
  refine ⟨F.bindsN (fun _ _ _ _ _ _ us hl => match us, hl with | [_], _ => rfl), F.ok sc_Watch_news (fun vs H Q E h => ?_) (fun cdv A outer s H vs Q E hr h => ?_)⟩
  · (obtain ⟨w, dx, x, g, d, rw, side, top, m, A, rfl, hw, hK, hTA, hA, ps, pt, h0, h1, k⟩ := h)
    rfl
  · (obtain ⟨w, dx, x, g, d, rw, side, top, m, A, rfl, hw, hK, hTA, hA, ps, pt, h0, h1, k⟩ := h)
    refine ⟨_, PSs.nox (pss_cons (ps_set (i := 1) sc_Watch_news.nd rfl (Or.inl rfl) (pe_fld (pv 0) rfl))
      (pss_cons (ps_fld (pv 0) (pe_ms0 (pv 0) (ok_Watch_reckoned T) (hr.mono (by decide))) rfl)
      (pss_one (ps_ret (pe_fn (ok_difference T) (hr.mono (by decide)) (pa_cons (pv 1) (pa_cons (pe_fld (pv 0) rfl) pa_nil))))))), ?_⟩
    have cl := T.cl_Watch
    refine ⟨_, rfl, w, _, dx, _, _, rfl, hw, cl, T.na_Watch_rows, rfl, ?_⟩
    refine ⟨_, rfl, w, _, dx, _, rfl, hw, rfl, rfl, w, dx, x, g, d, _, side, top, m, rfl, hw, ⟨rfl, hK, ps, pt⟩, rfl, rfl, rfl, ?_⟩
    rintro v8 H8 s8 ⟨r, B, rfl, hr, hT, hN⟩
    have hw8 := s8 _ _ hw
    refine ⟨_, rfl, w, _, dx, _, rfl, hw8, cl, T.na_Watch_rows, by simp, ?_⟩
    have ef : putF "rows" (.ref r) (wFs x m rw) = wFs x m r := by rw [putF_ne (by decide), putF_ne (by decide), putF_eq]
    rw [ef]
    have f9 : SameF H8 (upd H8 w (.ins (He.ga K "Watch") dx (wFs x m r))) := (sameF_hide hw8 Bool.false_ne_true).trans (same_f same_over)
    have hK9 := ((hK.mono s8).hideI hw8 rfl rfl Bool.false_ne_true).mono (same_over (o := .ins (He.ga K "Watch") dx (wFs x m r)))
    have hB := near_ok pt.1 h1 hN
    have sw : Same (hide w H) (upd H8 w (.ins (He.ga K "Watch") dx (wFs x m r))) := same_upd (unhide.trans s8) (by unfold hide; rw [if_pos rfl])
    refine ⟨_, rfl, _, rfl, w, _, dx, _, _, rfl, upd_same, cl, T.na_Watch_rows, rfl, rw, r, A, B, rfl, (hTA.f (same_f s8)).f f9, hT.f f9, hA, hB, ?_⟩
    rintro v9 H9 s9 ⟨q, c, w', m', rfl, hNw, hc, hww, hm, n1, n2, n3⟩
    have s9' := same_hid3 s9 hc hww hm
    exact k _ _ B ⟨q, c, w', m', rfl, hNw, n1, n2, n3, sw.trans s9', ⟨dx, r, s9' _ _ upd_same, hK9.mono s9', (hT.f f9).mono s9', hN, ps, pt, h0, h1⟩, dx, x, m, r, s9' _ _ upd_same, hide_none hr⟩
theorem ok_Watch_news {P : Program} {w : World} {K : PySem.W.Frag} {mg : Str → Option Value} {base : Heap} (T : Tx K mg) : ∀ C, C = He.ga K "Watch" → Mt P w K mg base C "news" ["self"] (10) (sp_Watch_news K) := by
  intro C hC
  subst hC
  obtain ⟨fd, F⟩ := T.D_Watch_news
  obtain ⟨b, G⟩ := fn_Watch_news (P := P) (w := w) (base := base) T F
  exact ⟨_, fd, T.cl_Watch, T.m_Watch_news, b, G⟩
end Pt
end
section
set_option maxRecDepth 100000
set_option maxHeartbeats 4000000
namespace Pt
open PySem PySem.Spec PyProof.Rows L2
theorem spans_idx {rows : List I3} {i : Nat} (h : i < rows.length) : (spans rows).getD i default = span (rows.getD i default) := by
  simp [spans, List.getD, h]
def rankV (rows : List I3) (s : Spn) : V := if s ∈ spans rows then nV ((spans rows).idxOf s) else .non
theorem idxOf_first {l : List Spn} {s : Spn} {i : Nat} (h : i < l.length) (e : l[i] = s) (hn : ∀ j, (hj : j < i) → l[j] ≠ s) : l.idxOf s = i := by
  have hm : s ∈ l := e ▸ List.getElem_mem h
  have hlt := List.idxOf_lt_length_iff.mpr hm
  have hg := List.getElem_idxOf hlt
  by_cases c1 : l.idxOf s < i
  · exact absurd hg (hn _ c1)
  · by_cases c2 : i < l.idxOf s
    · exfalso
      have := List.not_of_lt_findIdx (p := fun x => x == s) (xs := l) (i := i) (by simpa [List.idxOf] using c2)
      rw [e] at this
      simp at this
    · omega
def sp_Watch_rank (K : PySem.W.Frag) : Sp := fun vs H Q _ => ∃ (w x g d : Addr) (side top : List Nat) (m : Int) (rows : List I3) (b e : Nat), vs = [.ref w, nV b, nV e] ∧ WatchAt K H w x g d side top m rows ∧ b ≤ e ∧ e ≤ top.length ∧ Ret (fun v _ => v = rankV rows ((b : Int), (e : Int))) H Q
abbrev sc_Watch_rank_N : List Str := ["self", "begin", "end", "rank", "row"]
theorem sc_Watch_rank : FnScope sc_Watch_rank_N ["self", "begin", "end"] (defScope s_Watch_rank) := ⟨rfl, rfl, rfl, by decide +kernel, rfl, by decide +kernel, by decide +kernel⟩
theorem fn_Watch_rank {P : Program} {w : World} {K : PySem.W.Frag} {mg : Str → Option Value} {base : Heap} (T : Tx K mg) {f : Addr} {fd : FuncData} (F : FunD K "rank" "Watch.rank" (defArgs s_Watch_rank) (defBody s_Watch_rank) (defScope s_Watch_rank) [] [] f fd) : Binds K fd ["self", "begin", "end"] [] ∧ FnOk P w K mg base CX0 (5) f fd ["self", "begin", "end"] (sp_Watch_rank K) := by
  refine ⟨F.bindsN (fun _ _ _ _ _ _ us hl => match us, hl with | [_, _, _], _ => rfl), F.ok sc_Watch_rank (fun vs H Q E h => ?_) (fun cdv A outer s H vs Q E hr h => ?_)⟩
  · (obtain ⟨w, x, g, d, side, top, m, rows, b, e, rfl, hW, hbe, het, k⟩ := h)
    rfl
  · (obtain ⟨w, x, g, d, side, top, m, rows, b, e, rfl, hW, hbe, het, k⟩ := h)
    refine ⟨_, PSs.nox (pss_cons (ps_expr (pe_fn (ok_need_span T) (hr.mono (by decide)) (pa_cons (pv 1) (pa_cons (pv 2) (pa_cons (pe_callB call_len_str (by rfl) T.z_len (by decide +kernel) (pa_cons (pe_ms0 (pv 0) (ok_Watch_top T) (hr.mono (by decide))) pa_nil)) pa_nil)))))
      (pss_cons (ps_for PassesOwn.never rfl (pi_enum (by rfl) T.z_enumerate (pa_cons (pe_fld (pv 0) rfl) pa_nil)) (pg_tup rfl (pgs_cons (pg_name (i := 3) sc_Watch_rank.nd rfl (Or.inl rfl)) (pgs_cons (pg_name (i := 4) sc_Watch_rank.nd rfl (Or.inl rfl)) pgs_nil)))
      (pss_one (ps_if (pt_cmpR (op_eqD hr.units) (pe_slice sl_tup (pv 4) (po_some pe_int) po_none) (pe_tup (pa_cons (pv 1) (pa_cons (pv 2) pa_nil))) (nomark _)) (pss_one (ps_ret (pv 3))) pss_nil)))
      (pss_one (ps_ret pe_non)))), ?_⟩
    obtain ⟨dx, rw, hw, hWK⟩ := hW.wk
    obtain ⟨_, _, hw2, hK, ⟨ts, ht, hT⟩, hN, ps, pt, h0, h1⟩ := id hW
    have few := (near_ok pt.1 h1 hN).few
    rw [hw] at hw2
    injection hw2 with hw2
    injection hw2 with _ e2 e3
    injection e3 with _ e3
    injection e3 with _ e3
    injection e3 with e3 _
    injection e3 with _ e3
    injection e3 with e3
    subst e3
    refine ⟨_, rfl, _, rfl, _, rfl, w, _, dx, _, rfl, hw, rfl, rfl, w, dx, x, g, d, _, side, top, rfl, hw, hWK, ?_⟩
    rintro v1 H1 s1 rfl
    refine ⟨_, rfl, plen pt, b, e, _, rfl, by omega, by omega, by rw [sOf_len]; omega, ?_⟩
    refine ⟨_, rfl, w, _, dx, _, _, rfl, s1 _ _ hw, T.cl_Watch, T.na_Watch_rows, rfl, rw, _, rfl, SqL.of (s1 _ _ ht), for_it (walk_enum (xs := RL ts)) (fun i σ H' => ∃ v3 v4 : Option V, σ = [some (.ref w), some (nV b), some (nV e), v3, v4] ∧ Same H H' ∧ ∀ j, j < i → span (rows.getD j default) ≠ ((b : Int), (e : Int)))
      ⟨none, none, rfl, s1, fun j hj => absurd hj (Nat.not_lt_zero _)⟩ (fun i σ H' _ ⟨_, _, _, s, _⟩ => SqL.of (s _ _ ht)) ?_ ?_⟩
    · rintro i y σ H2 H3 hi ⟨v3, v4, rfl, s, hn⟩ ⟨Tp, y1, y2, rfl, hTp, rfl, e1, e2⟩
      obtain ⟨hb, rfl⟩ := RL_at e2
      cases e1
      have hil : i < rows.length := by rw [← hT.1]; exact hb
      have w1 := same_new hTp (o := .tup [.int i, .ref (ts.getD i 0)])
      have s2 := s.trans w1
      have hp := s2 _ _ (hT.2 i hil)
      have hsp : ∀ p, p = rows.getD i default → (span p = ((b : Int), (e : Int)) ↔ (p.2.1 = b ∧ p.2.2 = e)) := fun p _ => by
        unfold span
        constructor
        · intro h; rw [h]; exact ⟨rfl, rfl⟩
        · intro h; exact Prod.ext h.1 h.2
      have hsp := hsp _ rfl
      refine ⟨Tp, _, rfl, SqT.of upd_same, rfl, _, _, rfl, _, _, rfl, rfl, ?_⟩
      refine ⟨_, rfl, _, rfl, _, _, rfl, SqT.of hp, sl3, fun q hq => ?_⟩
      have w2 := same_new hq (o := .tup (cutV [.int (rows.getD i default).1, .int (rows.getD i default).2.1, .int (rows.getD i default).2.2] (some 1) none))
      refine ⟨_, rfl, _, rfl, (by show 2 ≤ sizeLine; decide), fun q2 hq2 => ?_⟩
      have w3 := same_new hq2 (o := .tup [nV b, nV e])
      have hq3 := w3 _ _ (upd_same (a := q) (o := .tup (cutV [.int (rows.getD i default).1, .int (rows.getD i default).2.1, .int (rows.getD i default).2.2] (some 1) none)))
      rw [cut3] at hq3
      refine ⟨.tuple [.int (rows.getD i default).2.1, .int (rows.getD i default).2.2], .tuple [.int b, .int e], .tup (SqT.of hq3) (.cons (.int _) (.cons (.int _) .nil)), .tup (SqT.of upd_same) (.cons (.int _) (.cons (.int _) .nil)), pair_shaped _ _, pair_shaped _ _, _, rfl, ?_⟩
      rw [pair_eqv]
      have s4 := s2.trans (w2.trans w3)
      by_cases c : (rows.getD i default).2.1 = b ∧ (rows.getD i default).2.2 = e
      · rw [decide_eq_true c.1, decide_eq_true c.2]
        refine iteT ⟨_, rfl, k _ _ s4 ?_⟩
        have hm : ((b : Int), (e : Int)) ∈ spans rows := List.mem_map.mpr ⟨_, getD_mem hil, hsp.mpr c⟩
        unfold rankV
        rw [if_pos hm]
        show nV i = nV _
        refine congrArg nV (idxOf_first (l := spans rows) (by simpa using hil) ?_ ?_).symm
        · have := hsp.mpr c
          have e5 : rows.getD i default = rows[i] := by simp [List.getD, hil]
          rw [e5] at this
          simpa using this
        · intro j hj
          have := hn j hj
          have hjl : j < rows.length := by omega
          have e5 : rows.getD j default = rows[j] := by simp [List.getD, hjl]
          rw [e5] at this
          simpa using this
      · have : (decide ((rows.getD i default).2.1 = (b : Int)) && decide ((rows.getD i default).2.2 = (e : Int))) = false := by
          by_cases c1 : (rows.getD i default).2.1 = (b : Int)
          · rw [decide_eq_false (fun z => c ⟨c1, z⟩), Bool.and_false]
          · rw [decide_eq_false c1]; rfl
        rw [this]
        refine iteF ⟨_, _, rfl, s4, fun j hj => ?_⟩
        by_cases c3 : j < i
        · exact hn j c3
        · have : j = i := by omega
          subst this
          exact fun z => c (hsp.mp z)
    · rintro σ H2 ⟨v3, v4, rfl, s, hn⟩
      refine k _ _ s ?_
      unfold rankV
      rw [if_neg]
      intro z
      obtain ⟨p, hp, e⟩ := List.mem_map.mp z
      obtain ⟨j, hj, rfl⟩ := List.mem_iff_getElem.mp hp
      have := hn j (by rw [RL_len, hT.1]; exact hj)
      have e5 : rows.getD j default = rows[j] := by simp [List.getD, hj]
      rw [e5] at this
      exact this e
theorem ok_Watch_rank {P : Program} {w : World} {K : PySem.W.Frag} {mg : Str → Option Value} {base : Heap} (T : Tx K mg) : ∀ C, C = He.ga K "Watch" → Mt P w K mg base C "rank" ["self", "begin", "end"] (5) (sp_Watch_rank K) := by
  intro C hC
  subst hC
  obtain ⟨fd, F⟩ := T.D_Watch_rank
  obtain ⟨b, G⟩ := fn_Watch_rank (P := P) (w := w) (base := base) T F
  exact ⟨_, fd, T.cl_Watch, T.m_Watch_rank, b, G⟩
end Pt
end
section
set_option maxRecDepth 100000
set_option maxHeartbeats 4000000
namespace Pt
open PySem PySem.Spec PyProof.Rows L2
def pname (t : Bool) : Str := if t then "top" else "side"
theorem KeptAt.sf {K : PySem.W.Frag} {H : Hp} {x g d : Addr} {top side : List Nat} (h : KeptAt K H x g d top side) : SameF H (hidK x g d H) := by
  obtain ⟨dk, rv, fr, h1, h2, h3⟩ := h
  have q := h2.ne_ins h1 rfl
  exact h2.sf.trans (sameF_hide (hide_of (hide_of h1 q.1) q.2) Bool.false_ne_true)
theorem KeptAt.ne_ins {K : PySem.W.Frag} {H : Hp} {x g d w C dx : Addr} {top side : List Nat} {fs : List (Str × V)} (h : KeptAt K H x g d top side) (e : H w = some (.ins C dx fs)) (n : fs.lookup ("against" : Str) = none) (n1 : fs.lookup ("grower" : Str) = none) : w ≠ x ∧ w ≠ g ∧ w ≠ d := by
  obtain ⟨dk, rv, fr, h1, h2, h3⟩ := h
  refine ⟨?_, h2.ne_ins e n⟩
  rintro rfl
  rw [e] at h1
  injection h1 with h1
  injection h1 with _ _ h1
  subst h1
  cases n1
theorem watch_keep {K : PySem.W.Frag} {H H' : Hp} {w x g d C dx rw : Addr} {top side : List Nat} {fs : List (Str × V)} {A : List I3} (hw : H w = some (.ins C dx fs)) (n : fs.lookup ("against" : Str) = none) (n1 : fs.lookup ("grower" : Str) = none) (hK : KeptAt K H x g d top side) (hT : T3 H rw A) (s : Same (hidK x g d H) H') : H' w = some (.ins C dx fs) ∧ T3 H' rw A := by
  have q := hK.ne_ins hw n n1
  exact ⟨s _ _ (hide_of (hide_of (hide_of hw q.2.1) q.2.2) q.1), hT.f (hK.sf.trans (same_f s))⟩
abbrev hidW (w x g d : Addr) (H : Hp) : Hp := hide w (hidK x g d H)
abbrev RetW (K : PySem.W.Frag) (w x g d : Addr) (side top : List Nat) (m : Int) (A : List I3) (H : Hp) (Q : VK) : Prop := ∀ v H' g' d' B, (g' = g ∨ H g' = none) → (d' = d ∨ H d' = none) → NewsQ (fun Z => Same (hidW w x g d H) Z ∧ WatchAt K Z w x g' d' side top m B ∧ NewRw K Z w (hidW w x g d H)) A B v H' → Q v H'
theorem NewRw.imp {K : PySem.W.Frag} {Z H H' : Hp} {w : Addr} (s : Same H H') (h : NewRw K Z w H') : NewRw K Z w H := by
  obtain ⟨dx, x, m, rw, h1, h2⟩ := h
  exact ⟨dx, x, m, rw, h1, s.free h2⟩
theorem NewsQ.imp {P P' : Hp → Prop} {A B : List I3} {v : V} {H : Hp} (f : ∀ Z, P Z → P' Z) (h : NewsQ P A B v H) : NewsQ P' A B v H := let ⟨r, c, a, b, h1, h2, h3, h4, h5, h6⟩ := h; ⟨r, c, a, b, h1, h2, h3, h4, h5, f _ h6⟩
def sp_Watch_row_of (K : PySem.W.Frag) : Sp := fun vs H Q _ => ∃ (w dx x g d : Addr) (fs : List (Str × V)) (side top : List Nat) (t : Bool), vs = [.ref w, .str (pname t)] ∧ H w = some (.ins (He.ga K "Watch") dx fs) ∧ WKept K H fs x g d side top ∧ fs.lookup ("side" : Str) = none ∧ fs.lookup ("top" : Str) = none ∧ Ret (fun v _ => v = .str (sOf (if t then top else side))) H Q
abbrev sc_Watch_row_of_N : List Str := ["self", "part"]
theorem sc_Watch_row_of : FnScope sc_Watch_row_of_N ["self", "part"] (defScope s_Watch_row_of) := ⟨rfl, rfl, rfl, by decide +kernel, rfl, by decide +kernel, by decide +kernel⟩
theorem fn_Watch_row_of {P : Program} {w : World} {K : PySem.W.Frag} {mg : Str → Option Value} {base : Heap} (T : Tx K mg) {f : Addr} {fd : FuncData} (F : FunD K "row_of" "Watch.row_of" (defArgs s_Watch_row_of) (defBody s_Watch_row_of) (defScope s_Watch_row_of) [] [] f fd) : Binds K fd ["self", "part"] [] ∧ FnOk P w K mg base CX0 (5) f fd ["self", "part"] (sp_Watch_row_of K) := by
  refine ⟨F.bindsN (fun _ _ _ _ _ _ us hl => match us, hl with | [_, _], _ => rfl), F.ok sc_Watch_row_of (fun vs H Q E h => ?_) (fun cdv A outer s H vs Q E hr h => ?_)⟩
  · (obtain ⟨w, dx, x, g, d, fs, side, top, t, rfl, hw, hW, hfs, hft, k⟩ := h)
    rfl
  · (obtain ⟨w, dx, x, g, d, fs, side, top, t, rfl, hw, hW, hfs, hft, k⟩ := h)
    refine ⟨_, PSs.nox (pss_cons (ps_if (pt_cmpR op_eq (pv 1) pe_str (nomark _)) (pss_one (ps_ret (pe_ms0 (pv 0) (ok_Watch_side T) (hr.mono (by decide))))) pss_nil)
      (pss_cons (ps_if (pt_cmpR op_eq (pv 1) pe_str (nomark _)) (pss_one (ps_ret (pe_ms0 (pv 0) (ok_Watch_top T) (hr.mono (by decide))))) pss_nil)
      (pss_one ps_never))), ?_⟩
    cases t with
    | false =>
      refine ⟨_, rfl, rfl, _, rfl, iteDT rfl ?_⟩
      exact ⟨_, rfl, w, _, dx, _, rfl, hw, rfl, hfs, w, dx, x, g, d, fs, side, top, rfl, hw, hW, fun v H' s e => k v H' s e⟩
    | true =>
      refine ⟨_, rfl, rfl, _, rfl, iteDF (fun z => absurd (V.str.inj z) (by decide)) ?_⟩
      refine ⟨_, rfl, rfl, _, rfl, iteDT rfl ?_⟩
      exact ⟨_, rfl, w, _, dx, _, rfl, hw, rfl, hft, w, dx, x, g, d, fs, side, top, rfl, hw, hW, fun v H' s e => k v H' s e⟩
theorem ok_Watch_row_of {P : Program} {w : World} {K : PySem.W.Frag} {mg : Str → Option Value} {base : Heap} (T : Tx K mg) : ∀ C, C = He.ga K "Watch" → Mt P w K mg base C "row_of" ["self", "part"] (5) (sp_Watch_row_of K) := by
  intro C hC
  subst hC
  obtain ⟨fd, F⟩ := T.D_Watch_row_of
  obtain ⟨b, G⟩ := fn_Watch_row_of (P := P) (w := w) (base := base) T F
  exact ⟨_, fd, T.cl_Watch, T.m_Watch_row_of, b, G⟩
def sp_Watch_retop (K : PySem.W.Frag) : Sp := fun vs H Q _ => ∃ (w dx x g d : Addr) (fs : List (Str × V)) (side top top' : List Nat), vs = [.ref w, .str (sOf top')] ∧ H w = some (.ins (He.ga K "Watch") dx fs) ∧ WKept K H fs x g d side top ∧ Plain top' ∧
  ∀ v H' g' d', Same (hidK x g d H) H' → (g' = g ∨ H g' = none) → (d' = d ∨ H d' = none) → KeptAt K H' x g' d' (prt top') (prt side) → Q v H'
abbrev sc_Watch_retop_N : List Str := ["self", "row"]
theorem sc_Watch_retop : FnScope sc_Watch_retop_N ["self", "row"] (defScope s_Watch_retop) := ⟨rfl, rfl, rfl, by decide +kernel, rfl, by decide +kernel, by decide +kernel⟩
theorem fn_Watch_retop {P : Program} {w : World} {K : PySem.W.Frag} {mg : Str → Option Value} {base : Heap} (T : Tx K mg) {f : Addr} {fd : FuncData} (F : FunD K "retop" "Watch.retop" (defArgs s_Watch_retop) (defBody s_Watch_retop) (defScope s_Watch_retop) [] [] f fd) : Binds K fd ["self", "row"] [] ∧ FnOk P w K mg base CX0 (111) f fd ["self", "row"] (sp_Watch_retop K) := by
  refine ⟨F.bindsN (fun _ _ _ _ _ _ us hl => match us, hl with | [_, _], _ => rfl), F.ok sc_Watch_retop (fun vs H Q E h => ?_) (fun cdv A outer s H vs Q E hr h => ?_)⟩
  · (obtain ⟨w, dx, x, g, d, fs, side, top, top', rfl, hw, hW, pt, k⟩ := h)
    rfl
  · (obtain ⟨w, dx, x, g, d, fs, side, top, top', rfl, hw, hW, pt, k⟩ := h)
    refine ⟨_, PSs.nox (pss_one (ps_expr (pe_ms (pe_fld (pv 0) rfl) (ok_Kept_retop T) (hr.mono (by decide)) (pa_cons (pe_fn (ok_parted T) (hr.mono (by decide)) (pa_cons (pv 1) pa_nil)) pa_nil)))), ?_⟩
    obtain ⟨dk, rv, fr, hx, _⟩ := id hW.kp
    refine ⟨_, rfl, w, _, dx, _, _, rfl, hw, T.cl_Watch, T.na_Watch_kept, hW.kf, x, _, dk, _, rfl, hx, rfl, rfl, _, rfl, top', rfl, pt, ?_⟩
    rintro v1 H1 s1 rfl
    refine ⟨x, g, d, prt top, prt top', prt side, rfl, hW.kp.mono s1, part_plain_row pt, ?_⟩
    intro v2 H2 g' d' m2 hg hd hK2
    refine k _ _ g' d' (fun y o e => m2 y o (hide_same (hide_same (hide_same s1)) y o e)) (hg.imp id fun h => s1.free h) (hd.imp id fun h => s1.free h) hK2
theorem ok_Watch_retop {P : Program} {w : World} {K : PySem.W.Frag} {mg : Str → Option Value} {base : Heap} (T : Tx K mg) : ∀ C, C = He.ga K "Watch" → Mt P w K mg base C "retop" ["self", "row"] (111) (sp_Watch_retop K) := by
  intro C hC
  subst hC
  obtain ⟨fd, F⟩ := T.D_Watch_retop
  obtain ⟨b, G⟩ := fn_Watch_retop (P := P) (w := w) (base := base) T F
  exact ⟨_, fd, T.cl_Watch, T.m_Watch_retop, b, G⟩
def insL (l : List Nat) (pl c : Nat) : List Nat := l.take pl ++ [c] ++ l.drop pl
def delL (l : List Nat) (pl : Nat) : List Nat := l.take pl ++ l.drop (pl + 1)
def setL (l : List Nat) (pl c : Nat) : List Nat := l.take pl ++ [c] ++ l.drop (pl + 1)
theorem plain_ins {l : List Nat} {pl c : Nat} (h : Plain l) (hl : l.length < 24) (hp : pl ≤ l.length) (hc : isLet c) : Plain (insL l pl c) := by
  refine ⟨by unfold insL; simp; omega, fun x hx => ?_⟩
  unfold insL at hx
  rcases List.mem_append.mp hx with q | q
  · rcases List.mem_append.mp q with q | q
    · exact h.2 x (List.mem_of_mem_take q)
    · have : x = c := by simpa using q
      rw [this]; exact hc
  · exact h.2 x (List.mem_of_mem_drop q)
theorem plain_del {l : List Nat} {pl : Nat} (h : Plain l) : Plain (delL l pl) := by
  have := h.1
  refine ⟨by unfold delL; simp; omega, fun x hx => ?_⟩
  rcases List.mem_append.mp hx with q | q
  · exact h.2 x (List.mem_of_mem_take q)
  · exact h.2 x (List.mem_of_mem_drop q)
theorem plain_set {l : List Nat} {pl c : Nat} (h : Plain l) (hp : pl < l.length) (hc : isLet c) : Plain (setL l pl c) := by
  have := h.1
  refine ⟨by unfold setL; simp; omega, fun x hx => ?_⟩
  rcases List.mem_append.mp hx with q | q
  · rcases List.mem_append.mp q with q | q
    · exact h.2 x (List.mem_of_mem_take q)
    · have : x = c := by simpa using q
      rw [this]; exact hc
  · exact h.2 x (List.mem_of_mem_drop q)
theorem prt_split {l : List Nat} {pl : Nat} (h : pl < l.length) : prt l = prt (l.take pl) ++ (46 :: l.getD pl 0 :: prt (l.drop (pl + 1))) := by
  have e : l = l.take pl ++ ([l.getD pl 0] ++ l.drop (pl + 1)) := by
    have e2 := getD_drop h
    rw [List.singleton_append, ← e2, List.take_append_drop]
  calc prt l = prt (l.take pl ++ ([l.getD pl 0] ++ l.drop (pl + 1))) := by rw [← e]
    _ = _ := by
      unfold prt
      rw [PtM.part_app, PtM.part_app]
      rfl
theorem prt_ins {l : List Nat} {pl c : Nat} (h : pl ≤ l.length) : insL (insL (prt l) (2 * pl) c) (2 * pl) 46 = prt (insL l pl c) := by
  have e1 : (prt l).take (2 * pl) = prt (l.take pl) := PtM.part_take 46 l pl
  have e2 : (prt l).drop (2 * pl) = prt (l.drop pl) := PtM.part_drop 46 l pl
  have lp : (prt (l.take pl)).length = 2 * pl := by rw [PtM.part_len, List.length_take]; omega
  unfold insL
  rw [e1, e2, List.append_assoc (prt (l.take pl)), List.take_left' lp, List.drop_left' lp]
  unfold prt
  rw [PtM.part_app, PtM.part_app]
  simp [PtM.part]
theorem prt_del {l : List Nat} {pl : Nat} (h : pl < l.length) : delL (delL (prt l) (2 * pl)) (2 * pl) = prt (delL l pl) := by
  have lp : (prt (l.take pl)).length = 2 * pl := by rw [PtM.part_len, List.length_take]; omega
  have step : ∀ (P S : List Nat) (a n : Nat), P.length = n → delL (P ++ a :: S) n = P ++ S := by
    intro P S a n hn
    unfold delL
    rw [List.take_left' hn]
    have : (P ++ a :: S).drop (n + 1) = S := by
      have e : P ++ a :: S = (P ++ [a]) ++ S := by simp
      rw [e, List.drop_left' (by simp [hn])]
    rw [this]
  rw [prt_split h, step _ _ _ _ lp, step _ _ _ _ lp]
  unfold delL prt
  rw [PtM.part_app]
theorem prt_set {l : List Nat} {pl c : Nat} (h : pl < l.length) : setL (prt l) (2 * pl + 1) c = prt (setL l pl c) := by
  have lp : (prt (l.take pl)).length = 2 * pl := by rw [PtM.part_len, List.length_take]; omega
  have e : prt l = (prt (l.take pl) ++ [46]) ++ (l.getD pl 0 :: prt (l.drop (pl + 1))) := by rw [prt_split h]; simp
  have e2 : prt l = (prt (l.take pl) ++ [46, l.getD pl 0]) ++ prt (l.drop (pl + 1)) := by rw [prt_split h]; simp
  have t1 : (prt l).take (2 * pl + 1) = prt (l.take pl) ++ [46] := by rw [e, List.take_left' (by simp [lp])]
  have t2 : (prt l).drop (2 * pl + 1 + 1) = prt (l.drop (pl + 1)) := by rw [e2, List.drop_left' (by simp [lp])]
  unfold setL
  rw [t1, t2]
  unfold prt
  rw [PtM.part_app, PtM.part_app]
  simp [PtM.part]
end Pt
end
section
set_option maxRecDepth 100000
set_option maxHeartbeats 4000000
namespace Pt
open PySem PySem.Spec PyProof.Rows L2
theorem hidK_trans {x g d : Addr} {H1 H2 H3 : Hp} (a : Same (hidK x g d H1) H2) (b : Same (hidK x g d H2) H3) : Same (hidK x g d H1) H3 := fun y o e =>
  b y o (hide_of (hide_of (hide_of (a y o e) (of_hide (of_hide (of_hide e).1).1).2) (of_hide (of_hide e).1).2) (of_hide e).2)
theorem dot2 (x : Addr) (pl : Nat) : [V.ref x, V.int (2 * (pl : Int)), V.str "."] = [V.ref x, nV (2 * pl), V.str (sOf [46])] := by rw [dbl, dotS]
def sp_Watch_put (K : PySem.W.Frag) : Sp := fun vs H Q _ => ∃ (w x g d : Addr) (side top : List Nat) (m : Int) (A : List I3) (t : Bool) (pl c : Nat), vs = [.ref w, .str (pname t), nV pl, .str (sOf [c])] ∧ WatchAt K H w x g d side top m A ∧ pl ≤ (if t then top else side).length ∧ (if t then top else side).length < 24 ∧ isLet c ∧
  RetW K w x g d (if t then side else insL side pl c) (if t then insL top pl c else top) m A H Q
abbrev sc_Watch_put_N : List Str := ["self", "part", "place", "letter", "row"]
theorem sc_Watch_put : FnScope sc_Watch_put_N ["self", "part", "place", "letter"] (defScope s_Watch_put) := ⟨rfl, rfl, rfl, by decide +kernel, rfl, by decide +kernel, by decide +kernel⟩
theorem fn_Watch_put {P : Program} {w : World} {K : PySem.W.Frag} {mg : Str → Option Value} {base : Heap} (T : Tx K mg) {f : Addr} {fd : FuncData} (F : FunD K "put" "Watch.put" (defArgs s_Watch_put) (defBody s_Watch_put) (defScope s_Watch_put) [] [] f fd) : Binds K fd ["self", "part", "place", "letter"] [] ∧ FnOk P w K mg base CX0 (112) f fd ["self", "part", "place", "letter"] (sp_Watch_put K) := by
  refine ⟨F.bindsN (fun _ _ _ _ _ _ us hl => match us, hl with | [_, _, _, _], _ => rfl), F.ok sc_Watch_put (fun vs H Q E h => ?_) (fun cdv A outer s H vs Q E hr h => ?_)⟩
  · (obtain ⟨w, x, g, d, side, top, m, A, t, pl, c, rfl, hW, hpl, hz, hc, k⟩ := h)
    rfl
  · (obtain ⟨w, x, g, d, side, top, m, A, t, pl, c, rfl, hW, hpl, hz, hc, k⟩ := h)
    refine ⟨_, PSs.nox (pss_cons (ps_set (i := 4) sc_Watch_put.nd rfl (Or.inl rfl) (pe_ms (pv 0) (ok_Watch_row_of T) (hr.mono (by decide)) (pa_cons (pv 1) pa_nil)))
      (pss_cons (ps_expr (pe_fn (ok_need_below T) (hr.mono (by decide)) (pa_cons (pv 2) (pa_cons (pe_op op_add (pe_callB call_len_str (by rfl) T.z_len (by decide +kernel) (pa_cons (pv 4) pa_nil)) pe_int) pa_nil))))
      (pss_cons (ps_expr (pe_fn (ok_need_letter T) (hr.mono (by decide)) (pa_cons (pv 3) pa_nil)))
      (pss_cons (ps_if (pt_cmpR op_eq (pe_callB call_len_str (by rfl) T.z_len (by decide +kernel) (pa_cons (pv 4) pa_nil)) (pe_glob (v := .int 24) rfl (Classical.choose_spec T.c_MOST_LETTERS) ⟨_, rfl⟩) (nomark _)) (pss_one ps_never) pss_nil)
      (pss_cons (ps_if (pt_cmpR op_eq (pv 1) pe_str (nomark _)) (pss_one (ps_expr (pe_ms (pv 0) (ok_Watch_retop T) (hr.mono (by decide)) (pa_cons (pe_op op_add_str (pe_op op_add_str (pe_slice sl_str (pv 4) po_none (po_some (pv 2))) (pv 3)) (pe_slice sl_str (pv 4) (po_some (pv 2)) po_none)) pa_nil)))) (pss_cons (ps_expr (pe_ms (pe_fld (pv 0) rfl) (ok_Kept_put T) (hr.mono (by decide)) (pa_cons (pe_op op_mul pe_int (pv 2)) (pa_cons (pv 3) pa_nil))))
      (pss_one (ps_expr (pe_ms (pe_fld (pv 0) rfl) (ok_Kept_put T) (hr.mono (by decide)) (pa_cons (pe_op op_mul pe_int (pv 2)) (pa_cons pe_str pa_nil)))))))
      (pss_one (ps_ret (pe_ms0 (pv 0) (ok_Watch_news T) (hr.mono (by decide)))))))))), ?_⟩
    obtain ⟨dx, rw, hw, hK, hT, hN, ps, pt, h0, h1⟩ := id hW
    have hA := near_ok pt.1 h1 hN
    have hWK : WKept K H (wFs x m rw) x g d side top := ⟨rfl, hK, ps, pt⟩
    refine ⟨_, rfl, w, _, dx, _, rfl, hw, rfl, rfl, _, rfl, w, dx, x, g, d, _, side, top, t, rfl, hw, hWK, rfl, rfl, ?_⟩
    rintro v1 H1 s1 rfl
    have pr : Plain (if t then top else side) := by cases t; exact ps; exact pt
    refine ⟨_, rfl, _, rfl, _, rfl, plen pr, _, _, rfl, rfl, ?_⟩
    rw [sOf_len]
    refine ⟨(pl : Int), _, rfl, by omega, by omega, ?_⟩
    refine ⟨_, rfl, c, rfl, hc, ?_⟩
    refine ⟨_, rfl, _, rfl, plen pr, rfl, _, rfl, iteDF (fun z => by rw [sOf_len] at z; have := V.int.inj z; omega) ?_⟩
    have hw := s1 _ _ hw
    have hK := hK.mono s1
    have hT := hT.mono s1
    have hWK := hWK.mono s1
    have mvK : ∀ {H2 : Hp}, Same (hidK x g d H1) H2 → Same (hidK x g d H) H2 := fun m2 y o e => m2 y o (hide_same (hide_same (hide_same s1)) y o e)
    dsimp only [tNext]
    refine seq_mid (fun σ' H' => ∃ (v : V) (g' d' : Addr), σ' = [some (.ref w), some (.str (pname t)), some (nV pl), some (.str (sOf [c])), some v] ∧ Same (hidK x g d H) H' ∧ (g' = g ∨ H g' = none) ∧ (d' = d ∨ H d' = none) ∧ H' w = some (.ins (He.ga K "Watch") dx (wFs x m rw)) ∧ T3 H' rw A ∧ KeptAt K H' x g' d' (prt (if t then insL top pl c else top)) (prt (if t then side else insL side pl c))) (fun N hN => ?_) ?_
    · cases t with
      | true =>
        refine ⟨_, rfl, rfl, _, rfl, iteDT rfl ?_⟩
        refine ⟨_, rfl, w, _, dx, _, rfl, hw, rfl, rfl, _, rfl, _, rfl, _, rfl, _, rfl, plen pt, ?_⟩
        rw [show (if true = true then top else side) = top from rfl] at hpl hz ⊢
        rw [cutS_to hpl]
        refine ⟨_, rfl, _, _, rfl, rfl, Nat.le_trans (m := 100000) (by rw [sOf_len, sOf_len, List.length_take]; simp; omega) (by decide), ?_⟩
        rw [sOf_app]
        refine ⟨_, rfl, _, rfl, _, rfl, _, rfl, plen pt, ?_⟩
        rw [cutS_from hpl]
        refine ⟨_, _, rfl, rfl, Nat.le_trans (m := 100000) (by rw [sOf_len, sOf_len]; simp; omega) (by decide), ?_⟩
        rw [sOf_app]
        refine ⟨w, dx, x, g, d, _, side, top, insL top pl c, rfl, hw, hWK, plain_ins pt hz hpl hc, ?_⟩
        intro v2 H2 g' d' m2 hg hd hK2
        have q := watch_keep hw rfl rfl hK hT m2
        exact hN _ _ ⟨_, g', d', rfl, mvK m2, hg.imp id fun h => s1.free h, hd.imp id fun h => s1.free h, q.1, q.2, hK2⟩
      | false =>
        refine ⟨_, rfl, rfl, _, rfl, iteDF (fun z => absurd (V.str.inj z) (by decide)) ?_⟩
        rw [show (if false = true then top else side) = side from rfl] at hpl hz
        have lp : (prt side).length = 2 * side.length := PtM.part_len 46 side
        obtain ⟨dk, rv, fr, hx, _⟩ := id hK
        refine ⟨_, rfl, w, _, dx, _, _, rfl, hw, T.cl_Watch, T.na_Watch_kept, rfl, x, _, dk, _, rfl, hx, rfl, rfl, _, rfl, _, _, rfl, rfl, .inl ⟨by decide, by decide⟩, _, rfl, x, g, d, prt top, prt side, 2 * pl, c, congrArg (fun z => [V.ref x, z, V.str (sOf [c])]) (dbl pl), hK, by omega, by omega, .inl hc, ?_⟩
        intro v2 H2 m2 hK2
        have q2 := watch_keep hw rfl rfl hK hT m2
        obtain ⟨dk2, rv2, fr2, hx2, _⟩ := id hK2
        have li : (insL (prt side) (2 * pl) c).length = 2 * side.length + 1 := by unfold insL; simp; omega
        refine ⟨_, rfl, w, _, dx, _, _, rfl, q2.1, T.cl_Watch, T.na_Watch_kept, rfl, x, _, dk2, _, rfl, hx2, rfl, rfl, _, rfl, _, _, rfl, rfl, .inl ⟨by decide, by decide⟩, x, g, d, prt top, insL (prt side) (2 * pl) c, 2 * pl, 46, dot2 x pl, hK2, by omega, by omega, .inr rfl, ?_⟩
        intro v3 H3 m3 hK3
        have q3 := watch_keep q2.1 rfl rfl hK2 q2.2 m3
        have hK3' : KeptAt K H3 x g d (prt top) (insL (insL (prt side) (2 * pl) c) (2 * pl) 46) := hK3
        rw [prt_ins hpl] at hK3'
        exact hN _ _ ⟨_, g, d, rfl, mvK (hidK_trans m2 m3), .inl rfl, .inl rfl, q3.1, q3.2, hK3'⟩
    · rintro σ2 H2 ⟨v, g', d', rfl, m2, hg, hd, hw2, hT2, hK2⟩
      refine ⟨_, rfl, w, _, dx, _, rfl, hw2, rfl, rfl, w, dx, x, g', d', rw, _, _, m, A, rfl, hw2, hK2, hT2, hA, ?_, ?_, h0, h1, ?_⟩
      · cases t
        · exact plain_ins ps hz hpl hc
        · exact ps
      · cases t
        · exact pt
        · exact plain_ins pt hz hpl hc
      · intro v3 H3 B hQ
        exact k _ _ g' d' B hg hd (hQ.imp fun Z hZ => ⟨fun y o e => hZ.1 y o (hide_of (m2 y o (of_hide e).1) (of_hide e).2), hZ.2.1, hZ.2.2.imp fun y o e => hide_of (m2 y o (of_hide e).1) (of_hide e).2⟩)
theorem ok_Watch_put {P : Program} {w : World} {K : PySem.W.Frag} {mg : Str → Option Value} {base : Heap} (T : Tx K mg) : ∀ C, C = He.ga K "Watch" → Mt P w K mg base C "put" ["self", "part", "place", "letter"] (112) (sp_Watch_put K) := by
  intro C hC
  subst hC
  obtain ⟨fd, F⟩ := T.D_Watch_put
  obtain ⟨b, G⟩ := fn_Watch_put (P := P) (w := w) (base := base) T F
  exact ⟨_, fd, T.cl_Watch, T.m_Watch_put, b, G⟩
def sp_Watch_drop (K : PySem.W.Frag) : Sp := fun vs H Q _ => ∃ (w x g d : Addr) (side top : List Nat) (m : Int) (A : List I3) (t : Bool) (pl : Nat), vs = [.ref w, .str (pname t), nV pl] ∧ WatchAt K H w x g d side top m A ∧ pl < (if t then top else side).length ∧
  RetW K w x g d (if t then side else delL side pl) (if t then delL top pl else top) m A H Q
abbrev sc_Watch_drop_N : List Str := ["self", "part", "place", "row"]
theorem sc_Watch_drop : FnScope sc_Watch_drop_N ["self", "part", "place"] (defScope s_Watch_drop) := ⟨rfl, rfl, rfl, by decide +kernel, rfl, by decide +kernel, by decide +kernel⟩
theorem fn_Watch_drop {P : Program} {w : World} {K : PySem.W.Frag} {mg : Str → Option Value} {base : Heap} (T : Tx K mg) {f : Addr} {fd : FuncData} (F : FunD K "drop" "Watch.drop" (defArgs s_Watch_drop) (defBody s_Watch_drop) (defScope s_Watch_drop) [] [] f fd) : Binds K fd ["self", "part", "place"] [] ∧ FnOk P w K mg base CX0 (112) f fd ["self", "part", "place"] (sp_Watch_drop K) := by
  refine ⟨F.bindsN (fun _ _ _ _ _ _ us hl => match us, hl with | [_, _, _], _ => rfl), F.ok sc_Watch_drop (fun vs H Q E h => ?_) (fun cdv A outer s H vs Q E hr h => ?_)⟩
  · (obtain ⟨w, x, g, d, side, top, m, A, t, pl, rfl, hW, hpl, k⟩ := h)
    rfl
  · (obtain ⟨w, x, g, d, side, top, m, A, t, pl, rfl, hW, hpl, k⟩ := h)
    refine ⟨_, PSs.nox (pss_cons (ps_set (i := 3) sc_Watch_drop.nd rfl (Or.inl rfl) (pe_ms (pv 0) (ok_Watch_row_of T) (hr.mono (by decide)) (pa_cons (pv 1) pa_nil)))
      (pss_cons (ps_expr (pe_fn (ok_need_below T) (hr.mono (by decide)) (pa_cons (pv 2) (pa_cons (pe_callB call_len_str (by rfl) T.z_len (by decide +kernel) (pa_cons (pv 3) pa_nil)) pa_nil))))
      (pss_cons (ps_if (pt_cmpR op_eq (pv 1) pe_str (nomark _)) (pss_one (ps_expr (pe_ms (pv 0) (ok_Watch_retop T) (hr.mono (by decide)) (pa_cons (pe_op op_add_str (pe_slice sl_str (pv 3) po_none (po_some (pv 2))) (pe_slice sl_str (pv 3) (po_some (pe_op op_add (pv 2) pe_int)) po_none)) pa_nil)))) (pss_cons (ps_expr (pe_ms (pe_fld (pv 0) rfl) (ok_Kept_drop T) (hr.mono (by decide)) (pa_cons (pe_op op_mul pe_int (pv 2)) pa_nil)))
      (pss_one (ps_expr (pe_ms (pe_fld (pv 0) rfl) (ok_Kept_drop T) (hr.mono (by decide)) (pa_cons (pe_op op_mul pe_int (pv 2)) pa_nil))))))
      (pss_one (ps_ret (pe_ms0 (pv 0) (ok_Watch_news T) (hr.mono (by decide)))))))), ?_⟩
    obtain ⟨dx, rw, hw, hK, hT, hN, ps, pt, h0, h1⟩ := id hW
    have hA := near_ok pt.1 h1 hN
    have hWK : WKept K H (wFs x m rw) x g d side top := ⟨rfl, hK, ps, pt⟩
    refine ⟨_, rfl, w, _, dx, _, rfl, hw, rfl, rfl, _, rfl, w, dx, x, g, d, _, side, top, t, rfl, hw, hWK, rfl, rfl, ?_⟩
    rintro v1 H1 s1 rfl
    have pr : Plain (if t then top else side) := by cases t; exact ps; exact pt
    refine ⟨_, rfl, _, rfl, _, rfl, plen pr, ?_⟩
    rw [sOf_len]
    refine ⟨(pl : Int), _, rfl, by omega, by omega, ?_⟩
    have hw := s1 _ _ hw
    have hK := hK.mono s1
    have hT := hT.mono s1
    have hWK := hWK.mono s1
    have mvK : ∀ {H2 : Hp}, Same (hidK x g d H1) H2 → Same (hidK x g d H) H2 := fun m2 y o e => m2 y o (hide_same (hide_same (hide_same s1)) y o e)
    dsimp only [tNext]
    refine seq_mid (fun σ' H' => ∃ (v : V) (g' d' : Addr), σ' = [some (.ref w), some (.str (pname t)), some (nV pl), some v] ∧ Same (hidK x g d H) H' ∧ (g' = g ∨ H g' = none) ∧ (d' = d ∨ H d' = none) ∧ H' w = some (.ins (He.ga K "Watch") dx (wFs x m rw)) ∧ T3 H' rw A ∧ KeptAt K H' x g' d' (prt (if t then delL top pl else top)) (prt (if t then side else delL side pl))) (fun N hN => ?_) ?_
    · cases t with
      | true =>
        refine ⟨_, rfl, rfl, _, rfl, iteDT rfl ?_⟩
        refine ⟨_, rfl, w, _, dx, _, rfl, hw, rfl, rfl, _, rfl, _, rfl, _, rfl, _, rfl, plen pt, ?_⟩
        rw [show (if true = true then top else side) = top from rfl] at hpl ⊢
        have z24 := pt.1
        rw [cutS_to (by omega)]
        refine ⟨_, rfl, _, rfl, _, _, rfl, rfl, _, rfl, _, rfl, plen pt, ?_⟩
        have e1 : ((pl : Int) + 1) = ((pl + 1 : Nat) : Int) := by omega
        have e2 : cutS (sOf top) (some ((pl : Int) + 1)) none = sOf (top.drop (pl + 1)) := by rw [e1]; exact cutS_from (by omega)
        rw [e2]
        refine ⟨_, _, rfl, rfl, Nat.le_trans (m := 100000) (by rw [sOf_len, sOf_len]; simp; omega) (by decide), ?_⟩
        rw [sOf_app]
        refine ⟨w, dx, x, g, d, _, side, top, delL top pl, rfl, hw, hWK, plain_del pt, ?_⟩
        intro v2 H2 g' d' m2 hg hd hK2
        have q := watch_keep hw rfl rfl hK hT m2
        exact hN _ _ ⟨_, g', d', rfl, mvK m2, hg.imp id fun h => s1.free h, hd.imp id fun h => s1.free h, q.1, q.2, hK2⟩
      | false =>
        refine ⟨_, rfl, rfl, _, rfl, iteDF (fun z => absurd (V.str.inj z) (by decide)) ?_⟩
        rw [show (if false = true then top else side) = side from rfl] at hpl
        have lp : (prt side).length = 2 * side.length := PtM.part_len 46 side
        obtain ⟨dk, rv, fr, hx, _⟩ := id hK
        refine ⟨_, rfl, w, _, dx, _, _, rfl, hw, T.cl_Watch, T.na_Watch_kept, rfl, x, _, dk, _, rfl, hx, rfl, rfl, _, rfl, _, _, rfl, rfl, .inl ⟨by decide, by decide⟩, x, g, d, prt top, prt side, 2 * pl, congrArg (fun z => [V.ref x, z]) (dbl pl), hK, by omega, ?_⟩
        intro v2 H2 m2 hK2
        have q2 := watch_keep hw rfl rfl hK hT m2
        obtain ⟨dk2, rv2, fr2, hx2, _⟩ := id hK2
        have li : (delL (prt side) (2 * pl)).length = 2 * side.length - 1 := by unfold delL; simp; omega
        refine ⟨_, rfl, w, _, dx, _, _, rfl, q2.1, T.cl_Watch, T.na_Watch_kept, rfl, x, _, dk2, _, rfl, hx2, rfl, rfl, _, rfl, _, _, rfl, rfl, .inl ⟨by decide, by decide⟩, x, g, d, prt top, delL (prt side) (2 * pl), 2 * pl, congrArg (fun z => [V.ref x, z]) (dbl pl), hK2, by omega, ?_⟩
        intro v3 H3 m3 hK3
        have q3 := watch_keep q2.1 rfl rfl hK2 q2.2 m3
        have hK3' : KeptAt K H3 x g d (prt top) (delL (delL (prt side) (2 * pl)) (2 * pl)) := hK3
        rw [prt_del hpl] at hK3'
        exact hN _ _ ⟨_, g, d, rfl, mvK (hidK_trans m2 m3), .inl rfl, .inl rfl, q3.1, q3.2, hK3'⟩
    · rintro σ2 H2 ⟨v, g', d', rfl, m2, hg, hd, hw2, hT2, hK2⟩
      refine ⟨_, rfl, w, _, dx, _, rfl, hw2, rfl, rfl, w, dx, x, g', d', rw, _, _, m, A, rfl, hw2, hK2, hT2, hA, ?_, ?_, h0, h1, ?_⟩
      · cases t
        · exact plain_del ps
        · exact ps
      · cases t
        · exact pt
        · exact plain_del pt
      · intro v3 H3 B hQ
        exact k _ _ g' d' B hg hd (hQ.imp fun Z hZ => ⟨fun y o e => hZ.1 y o (hide_of (m2 y o (of_hide e).1) (of_hide e).2), hZ.2.1, hZ.2.2.imp fun y o e => hide_of (m2 y o (of_hide e).1) (of_hide e).2⟩)
theorem ok_Watch_drop {P : Program} {w : World} {K : PySem.W.Frag} {mg : Str → Option Value} {base : Heap} (T : Tx K mg) : ∀ C, C = He.ga K "Watch" → Mt P w K mg base C "drop" ["self", "part", "place"] (112) (sp_Watch_drop K) := by
  intro C hC
  subst hC
  obtain ⟨fd, F⟩ := T.D_Watch_drop
  obtain ⟨b, G⟩ := fn_Watch_drop (P := P) (w := w) (base := base) T F
  exact ⟨_, fd, T.cl_Watch, T.m_Watch_drop, b, G⟩
def sp_Watch_change (K : PySem.W.Frag) : Sp := fun vs H Q _ => ∃ (w x g d : Addr) (side top : List Nat) (m : Int) (A : List I3) (t : Bool) (pl c : Nat), vs = [.ref w, .str (pname t), nV pl, .str (sOf [c])] ∧ WatchAt K H w x g d side top m A ∧ pl < (if t then top else side).length ∧ isLet c ∧
  RetW K w x g d (if t then side else setL side pl c) (if t then setL top pl c else top) m A H Q
abbrev sc_Watch_change_N : List Str := ["self", "part", "place", "letter", "row"]
theorem sc_Watch_change : FnScope sc_Watch_change_N ["self", "part", "place", "letter"] (defScope s_Watch_change) := ⟨rfl, rfl, rfl, by decide +kernel, rfl, by decide +kernel, by decide +kernel⟩
theorem fn_Watch_change {P : Program} {w : World} {K : PySem.W.Frag} {mg : Str → Option Value} {base : Heap} (T : Tx K mg) {f : Addr} {fd : FuncData} (F : FunD K "change" "Watch.change" (defArgs s_Watch_change) (defBody s_Watch_change) (defScope s_Watch_change) [] [] f fd) : Binds K fd ["self", "part", "place", "letter"] [] ∧ FnOk P w K mg base CX0 (112) f fd ["self", "part", "place", "letter"] (sp_Watch_change K) := by
  refine ⟨F.bindsN (fun _ _ _ _ _ _ us hl => match us, hl with | [_, _, _, _], _ => rfl), F.ok sc_Watch_change (fun vs H Q E h => ?_) (fun cdv A outer s H vs Q E hr h => ?_)⟩
  · (obtain ⟨w, x, g, d, side, top, m, A, t, pl, c, rfl, hW, hpl, hc, k⟩ := h)
    rfl
  · (obtain ⟨w, x, g, d, side, top, m, A, t, pl, c, rfl, hW, hpl, hc, k⟩ := h)
    refine ⟨_, PSs.nox (pss_cons (ps_set (i := 4) sc_Watch_change.nd rfl (Or.inl rfl) (pe_ms (pv 0) (ok_Watch_row_of T) (hr.mono (by decide)) (pa_cons (pv 1) pa_nil)))
      (pss_cons (ps_expr (pe_fn (ok_need_below T) (hr.mono (by decide)) (pa_cons (pv 2) (pa_cons (pe_callB call_len_str (by rfl) T.z_len (by decide +kernel) (pa_cons (pv 4) pa_nil)) pa_nil))))
      (pss_cons (ps_expr (pe_fn (ok_need_letter T) (hr.mono (by decide)) (pa_cons (pv 3) pa_nil)))
      (pss_cons (ps_if (pt_cmpR op_eq (pv 1) pe_str (nomark _)) (pss_one (ps_expr (pe_ms (pv 0) (ok_Watch_retop T) (hr.mono (by decide)) (pa_cons (pe_op op_add_str (pe_op op_add_str (pe_slice sl_str (pv 4) po_none (po_some (pv 2))) (pv 3)) (pe_slice sl_str (pv 4) (po_some (pe_op op_add (pv 2) pe_int)) po_none)) pa_nil)))) (pss_one (ps_expr (pe_ms (pe_fld (pv 0) rfl) (ok_Kept_change T) (hr.mono (by decide)) (pa_cons (pe_op op_add (pe_op op_mul pe_int (pv 2)) pe_int) (pa_cons (pv 3) pa_nil))))))
      (pss_one (ps_ret (pe_ms0 (pv 0) (ok_Watch_news T) (hr.mono (by decide))))))))), ?_⟩
    obtain ⟨dx, rw, hw, hK, hT, hN, ps, pt, h0, h1⟩ := id hW
    have hA := near_ok pt.1 h1 hN
    have hWK : WKept K H (wFs x m rw) x g d side top := ⟨rfl, hK, ps, pt⟩
    refine ⟨_, rfl, w, _, dx, _, rfl, hw, rfl, rfl, _, rfl, w, dx, x, g, d, _, side, top, t, rfl, hw, hWK, rfl, rfl, ?_⟩
    rintro v1 H1 s1 rfl
    have pr : Plain (if t then top else side) := by cases t; exact ps; exact pt
    refine ⟨_, rfl, _, rfl, _, rfl, plen pr, ?_⟩
    rw [sOf_len]
    refine ⟨(pl : Int), _, rfl, by omega, by omega, ?_⟩
    refine ⟨_, rfl, c, rfl, hc, ?_⟩
    have hw := s1 _ _ hw
    have hK := hK.mono s1
    have hT := hT.mono s1
    have hWK := hWK.mono s1
    have mvK : ∀ {H2 : Hp}, Same (hidK x g d H1) H2 → Same (hidK x g d H) H2 := fun m2 y o e => m2 y o (hide_same (hide_same (hide_same s1)) y o e)
    dsimp only [tNext]
    refine seq_mid (fun σ' H' => ∃ (v : V) (g' d' : Addr), σ' = [some (.ref w), some (.str (pname t)), some (nV pl), some (.str (sOf [c])), some v] ∧ Same (hidK x g d H) H' ∧ (g' = g ∨ H g' = none) ∧ (d' = d ∨ H d' = none) ∧ H' w = some (.ins (He.ga K "Watch") dx (wFs x m rw)) ∧ T3 H' rw A ∧ KeptAt K H' x g' d' (prt (if t then setL top pl c else top)) (prt (if t then side else setL side pl c))) (fun N hN => ?_) ?_
    · cases t with
      | true =>
        refine ⟨_, rfl, rfl, _, rfl, iteDT rfl ?_⟩
        refine ⟨_, rfl, w, _, dx, _, rfl, hw, rfl, rfl, _, rfl, _, rfl, _, rfl, _, rfl, plen pt, ?_⟩
        rw [show (if true = true then top else side) = top from rfl] at hpl ⊢
        have z24 := pt.1
        rw [cutS_to (by omega)]
        refine ⟨_, rfl, _, _, rfl, rfl, Nat.le_trans (m := 100000) (by rw [sOf_len, sOf_len, List.length_take]; simp; omega) (by decide), ?_⟩
        rw [sOf_app]
        refine ⟨_, rfl, _, rfl, _, _, rfl, rfl, _, rfl, _, rfl, plen pt, ?_⟩
        have e1 : ((pl : Int) + 1) = ((pl + 1 : Nat) : Int) := by omega
        have e2 : cutS (sOf top) (some ((pl : Int) + 1)) none = sOf (top.drop (pl + 1)) := by rw [e1]; exact cutS_from (by omega)
        rw [e2]
        refine ⟨_, _, rfl, rfl, Nat.le_trans (m := 100000) (by rw [sOf_len, sOf_len]; simp; omega) (by decide), ?_⟩
        rw [sOf_app]
        refine ⟨w, dx, x, g, d, _, side, top, setL top pl c, rfl, hw, hWK, plain_set pt hpl hc, ?_⟩
        intro v2 H2 g' d' m2 hg hd hK2
        have q := watch_keep hw rfl rfl hK hT m2
        exact hN _ _ ⟨_, g', d', rfl, mvK m2, hg.imp id fun h => s1.free h, hd.imp id fun h => s1.free h, q.1, q.2, hK2⟩
      | false =>
        refine ⟨_, rfl, rfl, _, rfl, iteDF (fun z => absurd (V.str.inj z) (by decide)) ?_⟩
        rw [show (if false = true then top else side) = side from rfl] at hpl
        have lp : (prt side).length = 2 * side.length := PtM.part_len 46 side
        obtain ⟨dk, rv, fr, hx, _⟩ := id hK
        have e3 : V.int (2 * (pl : Int) + 1) = nV (2 * pl + 1) := by
          have : (2 * (pl : Int) + 1) = ((2 * pl + 1 : Nat) : Int) := by omega
          rw [this]; rfl
        refine ⟨_, rfl, w, _, dx, _, _, rfl, hw, T.cl_Watch, T.na_Watch_kept, rfl, x, _, dk, _, rfl, hx, rfl, rfl, _, rfl, _, _, rfl, rfl, .inl ⟨by decide, by decide⟩, _, _, rfl, rfl, _, rfl, x, g, d, prt top, prt side, 2 * pl + 1, c, congrArg (fun z => [V.ref x, z, V.str (sOf [c])]) e3, hK, by omega, .inl hc, ?_⟩
        intro v2 H2 m2 hK2
        have q2 := watch_keep hw rfl rfl hK hT m2
        have hK2' : KeptAt K H2 x g d (prt top) (setL (prt side) (2 * pl + 1) c) := hK2
        rw [prt_set hpl] at hK2'
        exact hN _ _ ⟨_, g, d, rfl, mvK m2, .inl rfl, .inl rfl, q2.1, q2.2, hK2'⟩
    · rintro σ2 H2 ⟨v, g', d', rfl, m2, hg, hd, hw2, hT2, hK2⟩
      refine ⟨_, rfl, w, _, dx, _, rfl, hw2, rfl, rfl, w, dx, x, g', d', rw, _, _, m, A, rfl, hw2, hK2, hT2, hA, ?_, ?_, h0, h1, ?_⟩
      · cases t
        · exact plain_set ps hpl hc
        · exact ps
      · cases t
        · exact pt
        · exact plain_set pt hpl hc
      · intro v3 H3 B hQ
        exact k _ _ g' d' B hg hd (hQ.imp fun Z hZ => ⟨fun y o e => hZ.1 y o (hide_of (m2 y o (of_hide e).1) (of_hide e).2), hZ.2.1, hZ.2.2.imp fun y o e => hide_of (m2 y o (of_hide e).1) (of_hide e).2⟩)
theorem ok_Watch_change {P : Program} {w : World} {K : PySem.W.Frag} {mg : Str → Option Value} {base : Heap} (T : Tx K mg) : ∀ C, C = He.ga K "Watch" → Mt P w K mg base C "change" ["self", "part", "place", "letter"] (112) (sp_Watch_change K) := by
  intro C hC
  subst hC
  obtain ⟨fd, F⟩ := T.D_Watch_change
  obtain ⟨b, G⟩ := fn_Watch_change (P := P) (w := w) (base := base) T F
  exact ⟨_, fd, T.cl_Watch, T.m_Watch_change, b, G⟩
def sp_Watch_limit (K : PySem.W.Frag) : Sp := fun vs H Q _ => ∃ (w x g d : Addr) (side top : List Nat) (m m' : Int) (A : List I3), vs = [.ref w, .int m'] ∧ WatchAt K H w x g d side top m A ∧ 0 ≤ m' ∧ m' ≤ 48 ∧ RetW K w x g d side top m' A H Q
abbrev sc_Watch_limit_N : List Str := ["self", "most"]
theorem sc_Watch_limit : FnScope sc_Watch_limit_N ["self", "most"] (defScope s_Watch_limit) := ⟨rfl, rfl, rfl, by decide +kernel, rfl, by decide +kernel, by decide +kernel⟩
theorem fn_Watch_limit {P : Program} {w : World} {K : PySem.W.Frag} {mg : Str → Option Value} {base : Heap} (T : Tx K mg) {f : Addr} {fd : FuncData} (F : FunD K "limit" "Watch.limit" (defArgs s_Watch_limit) (defBody s_Watch_limit) (defScope s_Watch_limit) [] [] f fd) : Binds K fd ["self", "most"] [] ∧ FnOk P w K mg base CX0 (11) f fd ["self", "most"] (sp_Watch_limit K) := by
  refine ⟨F.bindsN (fun _ _ _ _ _ _ us hl => match us, hl with | [_, _], _ => rfl), F.ok sc_Watch_limit (fun vs H Q E h => ?_) (fun cdv A outer s H vs Q E hr h => ?_)⟩
  · (obtain ⟨w, x, g, d, side, top, m, m', A, rfl, hW, h0', h1', k⟩ := h)
    rfl
  · (obtain ⟨w, x, g, d, side, top, m, m', A, rfl, hW, h0', h1', k⟩ := h)
    refine ⟨_, PSs.nox (pss_cons (ps_expr (pe_fn (ok_need_limit T) (hr.mono (by decide)) (pa_cons (pv 1) pa_nil)))
      (pss_cons (ps_fld (pv 0) (pv 1) rfl)
      (pss_one (ps_ret (pe_ms0 (pv 0) (ok_Watch_news T) (hr.mono (by decide))))))), ?_⟩
    obtain ⟨dx, rw, hw, hK, hT, hN, ps, pt, h0, h1⟩ := id hW
    have hA := near_ok pt.1 h1 hN
    refine ⟨_, rfl, m', rfl, h0', h1', ?_⟩
    refine ⟨_, rfl, _, rfl, w, _, dx, _, rfl, hw, T.cl_Watch, T.na_Watch_limited, by simp, ?_⟩
    have ef : putF "limited" (.int m') (wFs x m rw) = wFs x m' rw := by rw [putF_ne (by decide), putF_eq]
    rw [ef]
    have f9 : SameF H (upd H w (.ins (He.ga K "Watch") dx (wFs x m' rw))) := (sameF_hide hw Bool.false_ne_true).trans (same_f same_over)
    have hK9 := (hK.hideI hw rfl rfl Bool.false_ne_true).mono (same_over (o := .ins (He.ga K "Watch") dx (wFs x m' rw)))
    refine ⟨_, rfl, w, _, dx, _, rfl, upd_same, rfl, rfl, w, dx, x, g, d, rw, side, top, m', A, rfl, upd_same, hK9, hT.f f9, hA, ps, pt, h0', h1', ?_⟩
    intro v3 H3 B hQ
    have sl : Same (hidW w x g d H) (hide w (upd H w (.ins (He.ga K "Watch") dx (wFs x m' rw)))) := fun y o e => by
      refine hide_of ?_ (of_hide e).2
      rw [upd_ne (of_hide e).2]
      exact (of_hide (of_hide (of_hide (of_hide e).1).1).1).1
    exact k _ _ g d B (.inl rfl) (.inl rfl) (hQ.imp fun Z hZ => ⟨sl.trans hZ.1, hZ.2.1, hZ.2.2.imp sl⟩)
theorem ok_Watch_limit {P : Program} {w : World} {K : PySem.W.Frag} {mg : Str → Option Value} {base : Heap} (T : Tx K mg) : ∀ C, C = He.ga K "Watch" → Mt P w K mg base C "limit" ["self", "most"] (11) (sp_Watch_limit K) := by
  intro C hC
  subst hC
  obtain ⟨fd, F⟩ := T.D_Watch_limit
  obtain ⟨b, G⟩ := fn_Watch_limit (P := P) (w := w) (base := base) T F
  exact ⟨_, fd, T.cl_Watch, T.m_Watch_limit, b, G⟩
end Pt
end
section
set_option maxRecDepth 100000
set_option maxHeartbeats 4000000
namespace Pt
open PySem PySem.Spec PyProof.Rows L2
abbrev CellsAt (K : PySem.W.Frag) (H : Hp) (a : Addr) (ns : List Int) : Prop := SqL K H a (ns.map V.int)
def sp__law_cell (K : PySem.W.Frag) : Sp := fun vs H Q _ => ∃ (a : Addr) (ns : List Int) (i : Nat), vs = [.ref a, nV i] ∧ CellsAt K H a ns ∧ ∀ c : Int, Q (.int c) H
abbrev sc__law_cell_N : List Str := ["_law_script", "_law_k"]
theorem sc__law_cell : FnScope sc__law_cell_N ["_law_script", "_law_k"] (defScope s__law_cell) := ⟨rfl, rfl, rfl, by decide +kernel, rfl, by decide +kernel, by decide +kernel⟩
theorem ok__law_cell {P : Program} {w : World} {K : PySem.W.Frag} {mg : Str → Option Value} {base : Heap} (T : Tx K mg) : Fn P w K mg base "_law_cell" ["_law_script", "_law_k"] (1) (sp__law_cell K) := by
  obtain ⟨fd, F⟩ := T.D__law_cell
  refine ⟨_, fd, T.g__law_cell, F.kp, F.bindsN (fun _ _ _ _ _ _ us hl => match us, hl with | [_, _], _ => rfl), F.ok sc__law_cell (fun vs H Q E h => ?_) (fun cdv A outer s H vs Q E hr h => ?_)⟩
  · (obtain ⟨a, ns, i, rfl, ha, k⟩ := h)
    rfl
  · (obtain ⟨a, ns, i, rfl, ha, k⟩ := h)
    refine ⟨_, PSs.nox (pss_cons (ps_if (pt_cmpR op_lt (pv 1) (pe_callB call_len_seq (by rfl) T.z_len (by decide +kernel) (pa_cons (pv 0) pa_nil)) (nomark _)) (pss_one (ps_ret (pe_ix ix_list (pv 0) (pv 1) (fun _ _ => rfl)))) pss_nil)
      (pss_one (ps_ret pe_int))), ?_⟩
    refine ⟨_, rfl, _, rfl, a, _, rfl, .inl ha, _, _, rfl, rfl, _, rfl, ?_⟩
    by_cases c : i < ns.length
    · refine iteDT (by simpa using c) ?_
      refine ⟨_, rfl, _, rfl, a, _, _, .int (ns.getD i 0), rfl, rfl, ha, ?_, k _⟩
      refine atI_nat (j := i) ?_
      simp [List.getElem?_map, List.getD, c]
    · exact iteDF (by simpa using c) (k 0)
theorem addnat (a b : Nat) : V.int ((a : Int) + (b : Int)) = nV (a + b) := by
  have : ((a : Int) + (b : Int)) = ((a + b : Nat) : Int) := by omega
  rw [this]; rfl
theorem num1 (a k : Nat) : V.int ((a : Int) * (a : Int) + 48271 * (a : Int) + (0 + (k : Int))) = nV (a * a + 48271 * a + k) := by
  have : ((a : Int) * (a : Int) + 48271 * (a : Int) + (0 + (k : Int))) = ((a * a + 48271 * a + k : Nat) : Int) := by rw [Int.natCast_add, Int.natCast_add, Int.natCast_mul, Int.natCast_mul, Int.zero_add]; rfl
  rw [this]; rfl
theorem num2 (a k : Nat) : V.int ((a : Int) * 69621 + 11 * (0 + (k : Int)) + 5) = nV (a * 69621 + 11 * k + 5) := by
  have : ((a : Int) * 69621 + 11 * (0 + (k : Int)) + 5) = ((a * 69621 + 11 * k + 5 : Nat) : Int) := by omega
  rw [this]; rfl
def sp__law_drawn : Sp := fun vs H Q _ => ∃ (c : Int) (a : Addr) (ms : List Nat), vs = [.int c, .ref a] ∧ LAt H a ms ∧ ms.length ≤ 100 ∧ (∀ x ∈ ms, 0 < x ∧ x < 1000000) ∧ Ret (fun v H' => ∃ r ds, v = .ref r ∧ H r = none ∧ LAt H' r ds ∧ ds.length = ms.length ∧ ∀ i, i < ms.length → ds.getD i 0 < ms.getD i 0) H Q
abbrev sc__law_drawn_N : List Str := ["_law_cell_here", "_law_menus", "_law_found", "_law_left", "_law_number", "_law_k"]
theorem sc__law_drawn : FnScope sc__law_drawn_N ["_law_cell_here", "_law_menus"] (defScope s__law_drawn) := ⟨rfl, rfl, rfl, by decide +kernel, rfl, by decide +kernel, by decide +kernel⟩
theorem ok__law_drawn {P : Program} {w : World} {K : PySem.W.Frag} {mg : Str → Option Value} {base : Heap} (T : Tx K mg) : Fn P w K mg base "_law_drawn" ["_law_cell_here", "_law_menus"] (1) sp__law_drawn := by
  obtain ⟨fd, F⟩ := T.D__law_drawn
  refine ⟨_, fd, T.g__law_drawn, F.kp, F.bindsN (fun _ _ _ _ _ _ us hl => match us, hl with | [_, _], _ => rfl), F.ok sc__law_drawn (fun vs H Q E h => ?_) (fun cdv A outer s H vs Q E hr h => ?_)⟩
  · (obtain ⟨c, a, ms, rfl, ha, hz, hm, k⟩ := h)
    rfl
  · (obtain ⟨c, a, ms, rfl, ha, hz, hm, k⟩ := h)
    refine ⟨_, PSs.nox (pss_cons (ps_set (i := 2) sc__law_drawn.nd rfl (Or.inl rfl) (pe_lst pa_nil))
      (pss_cons (ps_set (i := 3) sc__law_drawn.nd rfl (Or.inl rfl) (pv 0))
      (pss_cons (ps_set (i := 4) sc__law_drawn.nd rfl (Or.inl rfl) (pe_op op_add (pe_op op_mod (pv 0) pe_int) pe_int))
      (pss_cons (ps_for PassesOwn.never rfl (pi_range1 rfl T.z_range (pa_cons (pe_callB call_len_seq (by rfl) T.z_len (by decide +kernel) (pa_cons (pv 1) pa_nil)) pa_nil)) (pg_name (i := 5) sc__law_drawn.nd rfl (Or.inl rfl))
      (pss_cons (ps_set (i := 4) sc__law_drawn.nd rfl (Or.inl rfl) (pe_op op_modNat (pe_op op_add (pe_op op_add (pe_op op_mul (pv 4) (pv 4)) (pe_op op_mul pe_int (pv 4))) (pv 5)) pe_int))
      (pss_cons (ps_set (i := 4) sc__law_drawn.nd rfl (Or.inl rfl) (pe_op op_modNat (pe_op op_add (pe_op op_add (pe_op op_mul (pv 4) pe_int) (pe_op op_mul pe_int (pv 5))) pe_int) pe_int))
      (pss_one (ps_if (PW.pt (pw_and (pt_cmpR op_ge (pv 0) (pe_op op_pow pe_int pe_int) (nomark _)) (pw_and1 (pt_cmpR op_gt (pv 3) pe_int (nomark _))))) (pss_cons (ps_expr (pe_bm PySem.F.plainAttrs_list PySem.F.slot_list_append PySem.F.type_list_append mt_append (pv 2) (pa_cons (pe_op op_modNat (pv 3) (pe_ix ix_list (pv 1) (pv 5) (fun _ _ => rfl))) pa_nil)))
      (pss_one (ps_set (i := 3) sc__law_drawn.nd rfl (Or.inl rfl) (pe_op op_fdivNat (pv 3) (pe_ix ix_list (pv 1) (pv 5) (fun _ _ => rfl)))))) (pss_one (ps_expr (pe_bm PySem.F.plainAttrs_list PySem.F.slot_list_append PySem.F.type_list_append mt_append (pv 2) (pa_cons (pe_op op_modNat (pe_op op_fdivNat (pv 4) pe_int) (pe_ix ix_list (pv 1) (pv 5) (fun _ _ => rfl))) pa_nil)))))))))
      (pss_one (ps_ret (pv 2))))))), ?_⟩
    refine ⟨Nat.zero_le _, fun f hf => ?_⟩
    have s0 := same_new hf (o := .lst [])
    refine ⟨_, rfl, ?_⟩
    refine ⟨_, rfl, _, _, rfl, rfl, (show (0 : Int) < 2147483629 by decide), _, _, rfl, rfl, ?_⟩
    obtain ⟨n0, hn0⟩ : ∃ n0 : Nat, c % 2147483629 + 48271 = (n0 : Int) := ⟨(c % 2147483629 + 48271).toNat, by omega⟩
    have hb0 : n0 < 2200000000 := by omega
    have lms : (IL ms).length = ms.length := by simp
    refine ⟨_, rfl, a, _, rfl, .inl (SqL.of (s0 _ _ ha)), (ms.length : Int), by rw [lms], by omega, by omega, for_range (fun i σ H' => ∃ (left : Int) (num : Nat) (v : Option V) (ds : List Nat), σ = [some (.int c), some (.ref a), some (.ref f), some (.int left), some (nV num), v] ∧ num < 2200000000 ∧ Same H H' ∧ LAt H' f ds ∧ ds.length = i ∧ ∀ j, j < i → ds.getD j 0 < ms.getD j 0)
      ⟨c, n0, none, [], congrArg (fun z => [some (V.int c), some (V.ref a), some (V.ref f), some (V.int c), some (V.int z), none]) hn0, hb0, s0, upd_same, rfl, fun j hj => absurd hj (Nat.not_lt_zero _)⟩ ?_ ?_⟩
    · rintro i σ H1 hi ⟨left, num, v, ds, rfl, hb, s, hF, hl, hd⟩
      have hi : i < ms.length := by omega
      have hmi : ms.getD i 0 ∈ ms := by
        have e1 : ms.getD i 0 = ms[i] := by simp [List.getD, hi]
        rw [e1]; exact List.getElem_mem hi
      obtain ⟨hp, hlt⟩ := hm _ hmi
      have hat : atI (IL ms) (0 + (i : Int)) = some (nV (ms.getD i 0)) := by rw [Int.zero_add]; exact atI_nat (IL_get hi)
      generalize hmm : ms.getD i 0 = mm at hp hlt hat
      refine ⟨_, rfl, _, rfl, _, _, rfl, rfl, .inl ⟨by omega, by omega⟩, _, rfl, _, _, rfl, rfl, .inl ⟨by decide, by decide⟩, _, _, rfl, rfl, _, rfl, _, _, rfl, rfl, num * num + 48271 * num + i, 2147483647, num1 num i, rfl, by decide, ?_⟩
      refine ⟨_, rfl, _, _, rfl, rfl, .inr ⟨by decide, by decide⟩, _, rfl, _, _, rfl, rfl, .inl ⟨by decide, by decide⟩, _, _, rfl, rfl, _, _, rfl, rfl, (num * num + 48271 * num + i) % 2147483647 * 69621 + 11 * i + 5, 2147483629, num2 _ i, rfl, by decide, ?_⟩
      have hb2 : ((num * num + 48271 * num + i) % 2147483647 * 69621 + 11 * i + 5) % 2147483629 < 2200000000 := Nat.lt_trans (Nat.mod_lt _ (by decide)) (by decide)
      generalize ((num * num + 48271 * num + i) % 2147483647 * 69621 + 11 * i + 5) % 2147483629 = num2 at hb2
      have fin : ∀ (left' : Int) (q : Nat), q < mm → ∃ (left : Int) (num : Nat) (v : Option V) (ds' : List Nat), [some (V.int c), some (V.ref a), some (V.ref f), some (V.int left'), some (nV num2), some (V.int (0 + (i : Int)))] = [some (.int c), some (.ref a), some (.ref f), some (.int left), some (nV num), v] ∧ num < 2200000000 ∧ Same H (upd H1 f (.lst (IL ds ++ [nV q]))) ∧ LAt (upd H1 f (.lst (IL ds ++ [nV q]))) f ds' ∧ ds'.length = i + 1 ∧ ∀ j, j < i + 1 → ds'.getD j 0 < ms.getD j 0 := by
        intro left' q hq
        refine ⟨left', num2, _, ds ++ [q], rfl, hb2, same_upd s hf, by rw [LAt, upd_same]; simp [IL], by simp; omega, fun j hj => ?_⟩
        rw [getD_snoc, hl]
        by_cases c1 : j < i
        · rw [if_pos c1]; exact hd j c1
        · have : j = i := by omega
          subst this
          rw [if_neg c1, if_pos rfl, hmm]
          exact hq
      have hfl : (IL ds).length < sizeLine := bigS _ (by simp; omega)
      have ha1 := s _ _ ha
      have haf : a ≠ f := ne_of_none ha hf
      refine ⟨_, rfl, _, _, rfl, rfl, (show (0 : Int) ≤ 18 ∧ (18 : Int) ≤ 1000000 ∧ (10 : Int).natAbs < 2 ^ 64 by decide), _, _, rfl, rfl, _, rfl, iteR ?_ (fun _ b => ?_)⟩
      · refine ⟨_, rfl, .inl ⟨rfl, _, SqL.of hF⟩, _, rfl, num2, 7, rfl, rfl, ⟨by decide, by decide⟩, _, rfl, _, rfl, a, _, _, _, rfl, rfl, SqL.of ha1, hat, num2 / 7, mm, rfl, rfl, hp, f, _, _, rfl, rfl, hF, hfl, ?_⟩
        exact fin left _ (Nat.mod_lt _ hp)
      · refine ⟨_, rfl, _, _, rfl, rfl, _, rfl, iteC (fun c2 => ?_) (fun _ => b)⟩
        have c2 := of_decide_eq_true c2
        obtain ⟨n, rfl⟩ : ∃ n : Nat, left = (n : Int) := ⟨left.toNat, by omega⟩
        refine ⟨_, rfl, .inl ⟨rfl, _, SqL.of hF⟩, _, rfl, _, rfl, _, rfl, a, _, _, _, rfl, rfl, SqL.of ha1, hat, n, mm, rfl, rfl, hp, f, _, _, rfl, rfl, hF, hfl, ?_⟩
        refine ⟨_, rfl, _, rfl, _, rfl, a, _, _, _, rfl, rfl, SqL.of ((upd_ne haf).trans ha1), hat, n, mm, rfl, rfl, ⟨hp, by omega⟩, ?_⟩
        exact fin _ _ (Nat.mod_lt _ hp)
    · rintro σ H1 ⟨left, num, v, ds, rfl, hb, s, hF, hl, hd⟩
      have e : ((ms.length : Int)).toNat = ms.length := by omega
      rw [e] at hl hd
      exact ⟨_, rfl, k _ _ s ⟨f, ds, rfl, hf, hF, hl, hd⟩⟩
end Pt
end
section
set_option maxRecDepth 100000
set_option maxHeartbeats 4000000
namespace Pt
open PySem PySem.Spec PyProof.Rows L2
def LetsAt (H : Hp) (r : Addr) (cs : List Nat) : Prop := H r = some (.lst (cs.map fun c => V.str (sOf [c])))
structure LetsOk (cs : List Nat) : Prop where
  pos : 0 < cs.length
  few : cs.length ≤ 26
  lets : ∀ c ∈ cs, isLet c
theorem lets_get {cs : List Nat} {i : Nat} (h : i < cs.length) : atI (cs.map fun c => V.str (sOf [c])) (i : Int) = some (.str (sOf [cs.getD i 0])) := atI_nat (by simp [List.getElem?_map, List.getD, h])
theorem three {l : List Nat} (h : l.length = 3) : ∃ a b c, l = [a, b, c] := by
  match l, h with
  | [a, b, c], _ => exact ⟨a, b, c, rfl⟩
theorem lin (a b j : Nat) : V.int ((a : Int) + ((b : Int) + 1) * (0 + (j : Int))) = nV (a + (b + 1) * j) := by
  have : ((a : Int) + ((b : Int) + 1) * (0 + (j : Int))) = ((a + (b + 1) * j : Nat) : Int) := by rw [Int.zero_add, Int.natCast_add, Int.natCast_mul, Int.natCast_add]; rfl
  rw [this]; rfl
theorem tab_ok : ∀ i, i < 6 → 1 ≤ [1, 2, 2, 3, 4, 26].getD i 0 ∧ [1, 2, 2, 3, 4, 26].getD i 0 ≤ 26 := by decide
def sp__law_letters : Sp := fun vs H Q _ => ∃ c : Int, vs = [.int c] ∧ Ret (fun v H' => ∃ r cs, v = .ref r ∧ H r = none ∧ LetsAt H' r cs ∧ LetsOk cs) H Q
abbrev sc__law_letters_N : List Str := ["_law_cell_here", "_law_some", "_law_start", "_law_step_here", "_law_many", "_law_k"]
theorem sc__law_letters : FnScope sc__law_letters_N ["_law_cell_here"] (defScope s__law_letters) := ⟨rfl, rfl, rfl, by decide +kernel, rfl, by decide +kernel, by decide +kernel⟩
theorem ok__law_letters {P : Program} {w : World} {K : PySem.W.Frag} {mg : Str → Option Value} {base : Heap} (T : Tx K mg) : Fn P w K mg base "_law_letters" ["_law_cell_here"] (2) sp__law_letters := by
  obtain ⟨fd, F⟩ := T.D__law_letters
  refine ⟨_, fd, T.g__law_letters, F.kp, F.bindsN (fun _ _ _ _ _ _ us hl => match us, hl with | [_], _ => rfl), F.ok sc__law_letters (fun vs H Q E h => ?_) (fun cdv A outer s H vs Q E hr h => ?_)⟩
  · (obtain ⟨c, rfl, k⟩ := h)
    rfl
  · (obtain ⟨c, rfl, k⟩ := h)
    refine ⟨_, PSs.nox (pss_cons (ps_set (i := 1) sc__law_letters.nd rfl (Or.inr rfl) pe_str)
      (pss_cons (ps_asg (pe_fn (ok__law_drawn T) (hr.mono (by decide)) (pa_cons (pv 0) (pa_cons (pe_lst (pa_cons pe_int (pa_cons pe_int (pa_cons pe_int pa_nil)))) pa_nil))) (pg_unl rfl (pgs_cons (pg_name (i := 2) sc__law_letters.nd rfl (Or.inr rfl)) (pgs_cons (pg_name (i := 3) sc__law_letters.nd rfl (Or.inr rfl)) (pgs_cons (pg_name (i := 4) sc__law_letters.nd rfl (Or.inl rfl)) pgs_nil)))))
      (pss_cons (ps_set (i := 4) sc__law_letters.nd rfl (Or.inl rfl) (pe_ix ix_list (pe_lst (pa_cons pe_int (pa_cons pe_int (pa_cons pe_int (pa_cons pe_int (pa_cons pe_int (pa_cons pe_int pa_nil))))))) (pv 4) (fun _ _ => rfl)))
      (pss_one (ps_ret (pe_lc (own := [("_law_k", 5)]) rfl sc__law_letters.nd (pi_range1 rfl T.z_range (pa_cons (pv 4) pa_nil)) (blkOk_by (N := sc__law_letters_N) (sc := defScope s__law_letters) (by decide +kernel)) (fun _ _ _ _ _ => (pg_name (i := 5) sc__law_letters.nd rfl (Or.inl rfl))) (fun _ _ _ _ _ => pts_nil) (fun _ _ _ _ _ => (pe_ix ix_str (pv 1) (pe_op op_modNat (pe_op op_add (pv 2) (pe_op op_mul (pe_op op_add (pv 3) pe_int) (pv 5))) pe_int) (fun _ _ => rfl))))))))), ?_⟩
    refine ⟨_, rfl, (by show 3 ≤ sizeLine; decide), fun p hp => ?_⟩
    have s1 := same_new hp (o := .lst (IL [26, 25, 6]))
    refine ⟨c, p, [26, 25, 6], rfl, upd_same, by decide, by decide, ?_⟩
    rintro v1 H1 s2 ⟨r, ds, rfl, hr, hL, hl, hd⟩
    obtain ⟨d0, d1, d2, rfl⟩ := three hl
    have q2 : d2 < 6 := hd 2 (by decide)
    refine ⟨r, _, rfl, SqL.of hL, rfl, _, _, rfl, _, _, rfl, _, _, rfl, rfl, ?_⟩
    have s12 := s1.trans s2
    refine ⟨(by show 6 ≤ sizeLine; decide), fun q hq => ?_⟩
    have s3 := same_upd s12 (s12.free hq) (o := .lst (IL [1, 2, 2, 3, 4, 26]))
    have ht := tab_ok d2 q2
    refine ⟨_, rfl, q, _, _, nV ([1, 2, 2, 3, 4, 26].getD d2 0), rfl, rfl, SqL.of (xs := IL [1, 2, 2, 3, 4, 26]) upd_same, atI_nat (IL_get q2), ?_⟩
    generalize [1, 2, 2, 3, 4, 26].getD d2 0 = n at ht
    refine ⟨_, rfl, (n : Int), rfl, by omega, by omega, fun D hD => lcV walk_range (by omega) hD (fun j => .str (sOf [97 + (d0 + (d1 + 1) * j) % 26])) (fun _ _ => trivial) ?_ ?_⟩
    · rintro j x H2 H3 Q' hj s ⟨rfl, rfl⟩ k'
      have hm := Nat.mod_lt (d0 + (d1 + 1) * j) (show 0 < 26 by decide)
      refine ⟨rfl, _, rfl, _, rfl, _, rfl, _, _, rfl, rfl, _, rfl, _, _, rfl, rfl, .inr ⟨by omega, by omega⟩, _, _, rfl, rfl, d0 + (d1 + 1) * j, 26, lin d0 d1 j, rfl, by decide, ?_⟩
      refine ⟨_, _, 97 + (d0 + (d1 + 1) * j) % 26, rfl, rfl, (by show ("abcdefghijklmnopqrstuvwxyz" : Str).cps.size ≤ sizeLine; decide +kernel), ?_, k' _ (Same.refl _)⟩
      rw [letters_cps]
      exact atI_nat (by simp [hm])
    · intro H2 s4 hD2
      have en : (n : Int).toNat = n := by omega
      rw [en] at hD2
      refine k _ _ (s3.trans s4) ⟨D, (List.range n).map (fun j => 97 + (d0 + (d1 + 1) * j) % 26), rfl, s3.free hD, ?_, ⟨by simp; omega, by simp; omega, fun c hc => ?_⟩⟩
      · rw [LetsAt, hD2, List.map_map]
        rfl
      · obtain ⟨j, _, rfl⟩ := List.mem_map.mp hc
        have hm := Nat.mod_lt (d0 + (d1 + 1) * j) (show 0 < 26 by decide)
        unfold isLet
        omega
end Pt
end
section
set_option maxRecDepth 100000
set_option maxHeartbeats 4000000
namespace Pt
open PySem PySem.Spec PyProof.Rows L2
theorem min_nat (d : Nat) : ∃ n : Nat, (if ((24 : Nat) : Int) < (d : Int) then ((24 : Nat) : Int) else (d : Int)) = (n : Int) ∧ n ≤ 24 := by
  by_cases c : ((24 : Nat) : Int) < (d : Int)
  · exact ⟨24, by rw [if_pos c], by omega⟩
  · exact ⟨d, by rw [if_neg c], by omega⟩
def sp__law_row : Sp := fun vs H Q _ => ∃ (c : Int) (a : Addr) (cs : List Nat), vs = [.int c, .ref a, .int 24] ∧ LetsAt H a cs ∧ LetsOk cs ∧ Ret (fun v _ => ∃ l, v = .str (sOf l) ∧ Plain l) H Q
abbrev sc__law_row_N : List Str := ["_law_cell_here", "_law_signs", "_law_most", "_law_heads", "_law_size", "_law_draws", "_law_k"]
theorem sc__law_row : FnScope sc__law_row_N ["_law_cell_here", "_law_signs", "_law_most"] (defScope s__law_row) := ⟨rfl, rfl, rfl, by decide +kernel, rfl, by decide +kernel, by decide +kernel⟩
theorem ok__law_row {P : Program} {w : World} {K : PySem.W.Frag} {mg : Str → Option Value} {base : Heap} (T : Tx K mg) : Fn P w K mg base "_law_row" ["_law_cell_here", "_law_signs", "_law_most"] (2) sp__law_row := by
  obtain ⟨fd, F⟩ := T.D__law_row
  refine ⟨_, fd, T.g__law_row, F.kp, F.bindsN (fun _ _ _ _ _ _ us hl => match us, hl with | [_, _, _], _ => rfl), F.ok sc__law_row (fun vs H Q E h => ?_) (fun cdv A outer s H vs Q E hr h => ?_)⟩
  · (obtain ⟨c, a, cs, rfl, ha, hcs, k⟩ := h)
    rfl
  · (obtain ⟨c, a, cs, rfl, ha, hcs, k⟩ := h)
    refine ⟨_, PSs.nox (pss_cons (ps_set (i := 3) sc__law_row.nd rfl (Or.inl rfl) (pe_fn (ok__law_drawn T) (hr.mono (by decide)) (pa_cons (pv 0) (pa_cons (pe_lst (pa_cons pe_int (pa_cons pe_int (pa_cons (pe_op op_add (pv 2) pe_int) pa_nil)))) pa_nil))))
      (pss_cons (ps_set (i := 4) sc__law_row.nd rfl (Or.inl rfl) (pe_callB (call_min2 rfl) (by rfl) T.z_min (by decide +kernel) (pa_cons (pe_ix ix_list (pv 3) pe_int (fun _ _ => rfl)) (pa_cons (pv 2) pa_nil))))
      (pss_cons (ps_if (pt_cmpR op_eq (pe_ix ix_list (pv 3) pe_int (fun _ _ => rfl)) pe_int (nomark _)) (pss_one (ps_set (i := 4) sc__law_row.nd rfl (Or.inl rfl) (pe_ix ix_list (pv 3) pe_int (fun _ _ => rfl)))) pss_nil)
      (pss_cons (ps_set (i := 5) sc__law_row.nd rfl (Or.inl rfl) (pe_fn (ok__law_drawn T) (hr.mono (by decide)) (pa_cons (pv 0) (pa_cons (pe_op op_cat (pe_lst (pa_cons pe_int (pa_cons pe_int (pa_cons (pe_op op_add (pv 2) pe_int) pa_nil)))) (pe_op op_rep (pe_lst (pa_cons (pe_callB call_len_seq (by rfl) T.z_len (by decide +kernel) (pa_cons (pv 1) pa_nil)) pa_nil)) (pv 4))) pa_nil))))
      (pss_one (ps_ret (pe_join pe_str (pe_lc (own := [("_law_k", 6)]) rfl sc__law_row.nd (pi_list (pe_slice sl_list (pv 5) (po_some pe_int) po_none)) (blkOk_by (N := sc__law_row_N) (sc := defScope s__law_row) (by decide +kernel)) (fun _ _ _ _ _ => (pg_name (i := 6) sc__law_row.nd rfl (Or.inl rfl))) (fun _ _ _ _ _ => pts_nil) (fun _ _ _ _ _ => (pe_ix (ix_listK (K := K) rfl) (pv 1) (pv 6) (fun _ _ => rfl))))))))))), ?_⟩
    have hc0 := hcs.pos
    have hc1 := hcs.few
    have e0 : [V.int 8, V.int 9, V.int (24 + 1)] = IL [8, 9, 25] := rfl
    refine ⟨_, rfl, _, rfl, _, _, rfl, rfl, (by show 3 ≤ sizeLine; decide), fun p hp => ?_⟩
    have s1 := same_new hp (o := .lst (IL [8, 9, 25]))
    refine ⟨c, p, [8, 9, 25], rfl, upd_same, by decide, by decide, ?_⟩
    rintro v1 H1 s2 ⟨r, ds, rfl, hr, hL, hl, hd⟩
    obtain ⟨d0, d1, d2, rfl⟩ := three hl
    have q2 : d2 < 25 := hd 2 (by decide)
    have s12 := s1.trans s2
    refine ⟨_, rfl, r, _, _, nV d1, rfl, rfl, SqL.of (xs := IL [d0, d1, d2]) hL, at1, _, rfl, _, _, rfl, ?_⟩
    obtain ⟨n0, hn0, hn1⟩ := min_nat d1
    dsimp only
    refine seq_mid (fun σ' H' => ∃ n : Nat, n ≤ 24 ∧ H' = H1 ∧ σ' = [some (.int c), some (.ref a), some (.int 24), some (.ref r), some (nV n), none, none]) (fun N hN => ?_) ?_
    · refine ⟨_, rfl, r, _, _, nV d0, rfl, rfl, SqL.of (xs := IL [d0, d1, d2]) hL, at0, rfl, _, rfl, iteC (fun _ => ?_) (fun _ => ?_)⟩
      · refine ⟨_, rfl, r, _, _, nV d2, rfl, rfl, SqL.of (xs := IL [d0, d1, d2]) hL, atI_nat (j := 2) rfl, ?_⟩
        exact hN _ _ ⟨d2, by omega, rfl, rfl⟩
      · exact hN _ _ ⟨n0, hn1, rfl, congrArg (fun z => [some (V.int c), some (V.ref a), some (V.int 24), some (V.ref r), some (V.int z), none, none]) hn0⟩
    rintro σ2 H2 ⟨n, hn, rfl, rfl⟩
    have ha2 := s12 _ _ ha
    have lcs : (cs.map fun c => V.str (sOf [c])).length = cs.length := by simp
    refine ⟨_, rfl, _, rfl, _, _, rfl, rfl, (by show 3 ≤ sizeLine; decide), fun p2 hp2 => ?_⟩
    have s3 := same_upd s12 (s12.free hp2) (o := .lst (IL [8, 9, 25]))
    have w3 := same_new hp2 (o := .lst (IL [8, 9, 25]))
    refine ⟨_, rfl, a, _, rfl, .inl (SqL.of (w3 _ _ ha2)), (by show 1 ≤ sizeLine; decide), fun p3 hp3 => ?_⟩
    have s4 := same_upd s3 (s3.free hp3) (o := .lst [nV cs.length])
    have w4 := same_new hp3 (o := .lst [V.int ((cs.map fun c => V.str (sOf [c])).length : Nat)])
    refine ⟨_, rfl, p3, _, _, rfl, rfl, upd_same, by omega, by omega, big _ (by simp; omega), fun p4 hp4 => ?_⟩
    have en : (n : Int).toNat = n := by omega
    have e4 : (List.replicate (n : Int).toNat [V.int ((cs.map fun c => V.str (sOf [c])).length : Nat)]).flatten = IL (List.replicate n cs.length) := by
      rw [en, lcs, List.flatten_replicate_singleton]
      simp [IL, nV]
    rw [e4]
    have w5 := same_new hp4 (o := .lst (IL (List.replicate n cs.length)))
    have hp24 := w5 _ _ (w4 _ _ (upd_same (a := p2) (o := .lst (IL [8, 9, 25]))))
    refine ⟨p2, p4, _, _, rfl, rfl, hp24, upd_same, big _ (by simp [IL]; omega), fun p5 hp5 => ?_⟩
    rw [IL_app]
    have w6 := same_new hp5 (o := .lst (IL ([8, 9, 25] ++ List.replicate n cs.length)))
    have w36 := w3.trans (w4.trans (w5.trans w6))
    refine ⟨c, p5, [8, 9, 25] ++ List.replicate n cs.length, rfl, upd_same, by simp; omega, fun x hx => ?_, ?_⟩
    · rcases List.mem_append.mp hx with q | q
      · have hq : ∀ x ∈ [8, 9, 25], 0 < x ∧ x < 1000000 := by decide
        exact hq x q
      · have := (List.mem_replicate.mp q).2
        omega
    rintro v7 H7 s7 ⟨r7, ds, rfl, hr7, hL7, hl7, hd7⟩
    have sA := s12.trans (w36.trans s7)
    have ha7 := sA _ _ ha
    have hl8 : ds.length = 3 + n := by rw [hl7]; simp; omega
    refine ⟨⟨_, rfl⟩, _, rfl, _, rfl, r7, _, rfl, SqL.of hL7, fun q hq => ?_⟩
    have lds : (IL ds).length = ds.length := by simp
    have ecut : cutV (IL ds) (some 3) none = (IL ds).drop 3 := cut_from (k := 3) (by omega)
    rw [ecut]
    have w8 := same_new hq (o := .lst ((IL ds).drop 3))
    have ld : ((IL ds).drop 3).length = n := by simp; omega
    have hdl : ∀ i, i < n → ds.getD (3 + i) 0 < cs.length := fun i hi => by
      have h9 := hd7 (3 + i) (by simp; omega)
      have e9 : ([8, 9, 25] ++ List.replicate n cs.length).getD (3 + i) 0 = cs.length := by
        rw [List.getD_eq_getElem?_getD, List.getElem?_append_right (by simp)]
        simp [List.getElem?_replicate, hi]
      rw [e9] at h9
      exact h9
    refine ⟨q, rfl, ⟨_, SqL.of upd_same⟩, fun D hD => lcV (walk_list (xs := (IL ds).drop 3)) (by omega) hD (fun i => .str (sOf [cs.getD (ds.getD (3 + i) 0) 0])) (fun H' s => SqL.of (s _ _ upd_same)) ?_ ?_⟩
    · rintro i x H8 H9 Q' hi s ⟨rfl, hx⟩ k'
      rw [ld] at hi
      rw [List.getElem?_drop] at hx
      obtain ⟨_, rfl⟩ := IL_at hx
      exact ⟨rfl, _, rfl, _, rfl, a, _, _, _, rfl, rfl, SqL.of (s _ _ (w8 _ _ ha7)), lets_get (hdl i hi), k' _ (Same.refl _)⟩
    · intro H8 s8 hD8
      rw [ld] at hD8
      refine join_at (ls := (List.range n).map fun i => [cs.getD (ds.getD (3 + i) 0) 0]) hD8 (by simp) (fun i hi => ?_) ?_ ?_
      · simp [List.getD, hi]
      · have : ∀ (f : Nat → Nat) (m : Nat), ((List.range m).map fun i => [f i]).flatten.length = m := fun f m => by
          induction m with
          | zero => rfl
          | succ m ih => rw [List.range_succ, List.map_append, List.flatten_append, List.length_append, ih]; rfl
        rw [this]
        omega
      · refine k _ _ (sA.trans (w8.trans s8)) ⟨_, rfl, ?_, fun x hx => ?_⟩
        · have : ∀ (f : Nat → Nat) (m : Nat), ((List.range m).map fun i => [f i]).flatten.length = m := fun f m => by
            induction m with
            | zero => rfl
            | succ m ih => rw [List.range_succ, List.map_append, List.flatten_append, List.length_append, ih]; rfl
          rw [this]
          exact hn
        · obtain ⟨y, hy, hxy⟩ := List.mem_flatten.mp hx
          obtain ⟨i, hi, rfl⟩ := List.mem_map.mp hy
          have : x = cs.getD (ds.getD (3 + i) 0) 0 := by simpa using hxy
          rw [this]
          have hlt := hdl i (List.mem_range.mp hi)
          have e5 : cs.getD (ds.getD (3 + i) 0) 0 = cs[ds.getD (3 + i) 0] := by
            rw [List.getD_eq_getElem?_getD, List.getElem?_eq_getElem hlt]; rfl
          rw [e5]
          exact hcs.lets _ (List.getElem_mem hlt)
end Pt
end
section
set_option maxRecDepth 100000
set_option maxHeartbeats 4000000
namespace Pt
open PySem PySem.Spec PyProof.Rows L2
theorem isLet_dot {c : Nat} (h : isLet c) : c ≠ 46 := by unfold isLet at h; omega
theorem take_snocN {l : List Nat} {i : Nat} (h : i < l.length) : l.take (i + 1) = l.take i ++ [l.getD i 0] := by
  rw [List.take_succ_eq_append_getElem h]
  simp [List.getD, h]
theorem str_at {l : List Nat} {i : Nat} (h : i < l.length) : atI (sOf l).cps.toList (i : Int) = some (l.getD i 0) := at_str h
noncomputable def crow (a p : List Nat) (n : Nat) : List Int := (List.range n).map fun j => PtM.cost 46 (a.take j) p
theorem crow_len (a p : List Nat) (n : Nat) : (crow a p n).length = n := by simp [crow]
theorem crow_get {a p : List Nat} {n j : Nat} (h : j < n) : (crow a p n).getD j 0 = PtM.cost 46 (a.take j) p := by simp [crow, List.getD, h]
theorem crow_succ (a p : List Nat) (n : Nat) : crow a p (n + 1) = crow a p n ++ [PtM.cost 46 (a.take n) p] := by simp [crow, List.range_succ]
theorem int_get {l : List Int} {i : Nat} (h : i < l.length) : atI (l.map V.int) (i : Int) = some (.int (l.getD i 0)) := atI_nat (by simp [List.getElem?_map, List.getD, h])
theorem crow_start (a : List Nat) : (List.range (a.length + 1)).map (fun j : Nat => (j : Int)) = crow a [] (a.length + 1) := by
  unfold crow
  refine List.map_congr_left fun j hj => ?_
  rw [PtM.cost_nil_right, List.length_take]
  have := List.mem_range.mp hj
  omega
theorem cost_step {a p : List Nat} {j y : Nat} (hj : j < a.length) (ha : ∀ c ∈ a, isLet c) (hy : isLet y) :
    PtM.cost 46 (a.take (j + 1)) (p ++ [y]) = min (min (PtM.cost 46 (a.take j) (p ++ [y]) + 1) (PtM.cost 46 (a.take (j + 1)) p + 1)) (PtM.cost 46 (a.take j) p + (if a.getD j 0 = y then 0 else 1)) := by
  have hm : a.getD j 0 ∈ a := by
    have e1 : a.getD j 0 = a[j] := by simp [List.getD, hj]
    rw [e1]; exact List.getElem_mem hj
  rw [take_snocN hj]
  exact PtM.cost_snoc (isLet_dot (ha _ hm)) (isLet_dot hy)
theorem min3I (x y z : Int) : nuMin3 (.int x) (.int y) (.int z) = some (.int (min (min x y) z)) := by
  have two : ∀ u v : Int, nuMin2 (.int u) (.int v) = some (.int (min u v)) := fun u v => by
    show (some (decide (v < u))).map (fun c => if c = true then V.int v else V.int u) = _
    by_cases c : v < u
    · rw [decide_eq_true c]
      show some (V.int v) = some (V.int (min u v))
      rw [Int.min_eq_right (by omega)]
    · rw [decide_eq_false c]
      show some (V.int u) = some (V.int (min u v))
      rw [Int.min_eq_left (by omega)]
  unfold nuMin3
  rw [two]
  exact two _ _
def sp__law_costs : Sp := fun vs H Q _ => ∃ a b : List Nat, vs = [.str (sOf a), .str (sOf b)] ∧ Plain a ∧ Plain b ∧ Ret (fun v H' => ∃ r, v = .ref r ∧ H r = none ∧ CostAt H' r (costTab a b)) H Q
abbrev sc__law_costs_N : List Str := ["_law_side", "_law_top", "_law_table", "_law_begin", "_law_row_here", "_law_costs_here", "_law_sign", "_law_below", "_law_k"]
theorem sc__law_costs : FnScope sc__law_costs_N ["_law_side", "_law_top"] (defScope s__law_costs) := ⟨rfl, rfl, rfl, by decide +kernel, rfl, by decide +kernel, by decide +kernel⟩
theorem ok__law_costs {P : Program} {w : World} {K : PySem.W.Frag} {mg : Str → Option Value} {base : Heap} (T : Tx K mg) : Fn P w K mg base "_law_costs" ["_law_side", "_law_top"] (1) sp__law_costs := by
  obtain ⟨fd, F⟩ := T.D__law_costs
  refine ⟨_, fd, T.g__law_costs, F.kp, F.bindsN (fun _ _ _ _ _ _ us hl => match us, hl with | [_, _], _ => rfl), F.ok sc__law_costs (fun vs H Q E h => ?_) (fun cdv A outer s H vs Q E hr h => ?_)⟩
  · (obtain ⟨a, b, rfl, pa, pb, k⟩ := h)
    rfl
  · (obtain ⟨a, b, rfl, pa, pb, k⟩ := h)
    refine ⟨_, PSs.nox (pss_cons (ps_set (i := 2) sc__law_costs.nd rfl (Or.inl rfl) (pe_lst pa_nil))
      (pss_cons (ps_for PassesOwn.never rfl (pi_range1 rfl T.z_range (pa_cons (pe_op op_add (pe_callB call_len_str (by rfl) T.z_len (by decide +kernel) (pa_cons (pv 1) pa_nil)) pe_int) pa_nil)) (pg_name (i := 3) sc__law_costs.nd rfl (Or.inl rfl))
      (pss_cons (ps_set (i := 4) sc__law_costs.nd rfl (Or.inl rfl) (pe_listRg rfl rfl T.z_list (prg_1 rfl T.z_range (pe_op op_add (pe_callB call_len_str (by rfl) T.z_len (by decide +kernel) (pa_cons (pv 0) pa_nil)) pe_int))))
      (pss_cons (ps_set (i := 5) sc__law_costs.nd rfl (Or.inl rfl) (pe_lst (pa_cons (pe_callB call_len_str (by rfl) T.z_len (by decide +kernel) (pa_cons (pv 0) pa_nil)) pa_nil)))
      (pss_cons (ps_for PassesOwn.never rfl (pi_str (pe_slice sl_str (pv 1) (po_some (pv 3)) po_none)) (pg_name (i := 6) sc__law_costs.nd rfl (Or.inl rfl))
      (pss_cons (ps_set (i := 7) sc__law_costs.nd rfl (Or.inl rfl) (pe_lst (pa_cons (pe_op op_add (pe_ix ix_list (pv 4) pe_int (fun _ _ => rfl)) pe_int) pa_nil)))
      (pss_cons (ps_for PassesOwn.never rfl (pi_range1 rfl T.z_range (pa_cons (pe_callB call_len_str (by rfl) T.z_len (by decide +kernel) (pa_cons (pv 0) pa_nil)) pa_nil)) (pg_name (i := 8) sc__law_costs.nd rfl (Or.inl rfl))
      (pss_one (ps_expr (pe_bm PySem.F.plainAttrs_list PySem.F.slot_list_append PySem.F.type_list_append mt_append (pv 7) (pa_cons (pe_callB (call_min3Nu rfl) (by rfl) T.z_min (by decide +kernel) (pa_cons (pe_op op_add (pe_ix ix_list (pv 4) (pe_op op_add (pv 8) pe_int) (fun _ _ => rfl)) pe_int) (pa_cons (pe_op op_add (pe_ix ix_list (pv 7) (pv 8) (fun _ _ => rfl)) pe_int) (pa_cons (pe_op op_add (pe_ix ix_list (pv 4) (pv 8) (fun _ _ => rfl)) (pe_callTy call_int1 (by rfl) T.z_int (by decide +kernel) (pa_cons (pe_cmpR op_ne (pe_ix ix_str (pv 0) (pv 8) (fun _ _ => rfl)) (pv 6) (nomark _)) pa_nil))) pa_nil)))) pa_nil)))))
      (pss_cons (ps_set (i := 4) sc__law_costs.nd rfl (Or.inl rfl) (pv 7))
      (pss_one (ps_expr (pe_bm PySem.F.plainAttrs_list PySem.F.slot_list_append PySem.F.type_list_append mt_append (pv 5) (pa_cons (pe_ix ix_list (pv 4) (pe_un un_neg pe_int) (fun _ _ => rfl)) pa_nil))))))))
      (pss_one (ps_expr (pe_bm PySem.F.plainAttrs_list PySem.F.slot_list_append PySem.F.type_list_append mt_append (pv 2) (pa_cons (pv 5) pa_nil))))))))
      (pss_one (ps_ret (pv 2))))), ?_⟩
    have za := pa.1
    have zb := pb.1
    refine ⟨Nat.zero_le _, fun f hf => ?_⟩
    have s0 := same_new hf (o := .lst [])
    refine ⟨_, rfl, _, rfl, plen pb, _, _, rfl, rfl, (b.length : Int) + 1, by rw [sOf_len], by omega, by omega, for_range (fun i σ H' => ∃ (v3 v4 v5 v6 v7 v8 : Option V) (cs : List Addr), σ = [some (.str (sOf a)), some (.str (sOf b)), some (.ref f), v3, v4, v5, v6, v7, v8] ∧ Same H H' ∧ H' f = some (.lst (RL cs)) ∧ cs.length = i ∧ ∀ j, j < i → H' (cs.getD j 0) = some (.lst (((costTab a b).getD j []).map V.int)))
      ⟨none, none, none, none, none, none, [], rfl, s0, upd_same, rfl, fun j hj => absurd hj (Nat.not_lt_zero _)⟩ ?_ ?_⟩
    · rintro i σ H1 hi ⟨v3, v4, v5, v6, v7, v8, cs, rfl, s, hF, hcs, hcj⟩
      have hi : i < b.length + 1 := by omega
      refine ⟨_, rfl, _, rfl, plen pa, _, _, rfl, rfl, _, rfl, RgOk.of_le (by omega) (by rw [sOf_len]; omega) (by omega) (by omega), fun rw0 hrw => ?_⟩
      have er : rgV 0 (((sOf a).length : Int) + 1) = (crow a [] (a.length + 1)).map V.int := by
        rw [sOf_len]
        have e : ((a.length : Int) + 1) = ((a.length + 1 : Nat) : Int) := by omega
        rw [e, rg_nat, ← crow_start]
        simp [IL, nV, Function.comp_def]
      rw [er]
      have w1 := same_new hrw (o := .lst ((crow a [] (a.length + 1)).map V.int))
      refine ⟨_, rfl, _, rfl, plen pa, (by show 1 ≤ sizeLine; decide), fun q hq => ?_⟩
      have ec : [V.int ((sOf a).length : Nat)] = ((List.range 1).map fun k => PtM.cost 46 a (((b.drop i)).take k)).map V.int := by
        rw [sOf_len]
        simp [PtM.cost_nil_right]
      rw [ec]
      have w2 := w1.trans (same_new hq (o := .lst (((List.range 1).map fun k => PtM.cost 46 a (((b.drop i)).take k)).map V.int)))
      have hq0 : H1 q = none := w1.free hq
      have hrq : rw0 ≠ q := ne_of_none upd_same hq
      refine ⟨_, rfl, _, rfl, _, rfl, _, rfl, plen pb, ?_⟩
      have ez : cutS (sOf b) (some (0 + (i : Int))) none = sOf (b.drop i) := by rw [Int.zero_add]; exact cutS_from (by omega)
      rw [ez]
      obtain ⟨T, hT⟩ : ∃ T, T = b.drop i := ⟨_, rfl⟩
      have lT : T.length = b.length - i := by rw [hT]; simp
      have pT : ∀ c ∈ T, isLet c := fun c hc => pb.2 c (by rw [hT] at hc; exact List.mem_of_mem_drop hc)
      rw [← hT] at w2 ⊢
      refine ⟨_, rfl, for_it (walk_str (z := sOf T)) (fun s' σ' H' => ∃ (rw : Addr) (v6 v7 v8 : Option V), σ' = [some (.str (sOf a)), some (.str (sOf b)), some (.ref f), some (.int (0 + (i : Int))), some (.ref rw), some (.ref q), v6, v7, v8] ∧ Same H1 H' ∧ rw ≠ q ∧ H' rw = some (.lst ((crow a (T.take s') (a.length + 1)).map V.int)) ∧ H' q = some (.lst (((List.range (s' + 1)).map fun k => PtM.cost 46 a (T.take k)).map V.int)))
        ⟨rw0, v6, v7, v8, rfl, w2, hrq, (upd_ne hrq).trans upd_same, upd_same⟩ (fun _ _ _ _ _ => trivial) ?_ ?_⟩
      · rintro n x σ2 H2 H3 hn ⟨rw, u6, u7, u8, rfl, s2, hne, hR, hQ⟩ ⟨rfl, y, hy, rfl⟩
        have hy' : T[n]? = some y := by simpa [sOf] using hy
        have hnT : n < T.length := (List.getElem?_eq_some_iff.mp hy').1
        have eyn : T.getD n 0 = y := by simp [List.getD, hy']
        have hyl : isLet y := by
          have := List.mem_of_getElem? hy'
          exact pT y this
        rw [take_snocN hnT, eyn]
        obtain ⟨p, hp⟩ : ∃ p, p = T.take n := ⟨_, rfl⟩
        have lp : p.length = n := by rw [hp, List.length_take]; omega
        rw [← hp] at hR ⊢
        have hr0 : atI ((crow a p (a.length + 1)).map V.int) 0 = some (.int (PtM.cost 46 (a.take 0) p)) := by
          have := int_get (l := crow a p (a.length + 1)) (i := 0) (by rw [crow_len]; omega)
          rw [crow_get (by omega)] at this
          exact this
        refine ⟨_, rfl, rw, _, _, _, rfl, rfl, SqL.of hR, hr0, _, _, rfl, rfl, (by show 1 ≤ sizeLine; decide), fun bl hbl => ?_⟩
        have e1 : [V.int (PtM.cost 46 (a.take 0) p + 1)] = (crow a (p ++ [y]) 1).map V.int := by
          simp [crow, PtM.cost_nil_left]
        have e1' : [(fun i j : Int => V.int (i + j)) (PtM.cost 46 (a.take 0) p) 1] = (crow a (p ++ [y]) 1).map V.int := e1
        rw [e1']
        have w3 := same_new hbl (o := .lst ((crow a (p ++ [y]) 1).map V.int))
        have hbl0 : H1 bl = none := s2.free hbl
        have nbr : rw ≠ bl := ne_of_none hR hbl
        have nbq : q ≠ bl := ne_of_none hQ hbl
        have hi0 : (0 + (i : Int)) = (i : Int) := by omega
        refine ⟨_, rfl, _, rfl, plen pa, (a.length : Int), by rw [sOf_len], by omega, by omega, for_range (fun j σ' H' => ∃ v8 : Option V, σ' = [some (.str (sOf a)), some (.str (sOf b)), some (.ref f), some (.int (0 + (i : Int))), some (.ref rw), some (.ref q), some (.str ⟨#[y]⟩), some (.ref bl), v8] ∧ Same H3 H' ∧ H' bl = some (.lst ((crow a (p ++ [y]) (j + 1)).map V.int)))
          ⟨u8, rfl, w3, upd_same⟩ ?_ ?_⟩
        · rintro j σ3 H4 hj ⟨v8, rfl, s4, hB⟩
          have hj : j < a.length := by omega
          have hR4 := s4 _ _ hR
          have a1 : atI ((crow a p (a.length + 1)).map V.int) (0 + (j : Int) + 1) = some (.int (PtM.cost 46 (a.take (j + 1)) p)) := by
            have e : (0 + (j : Int) + 1) = ((j + 1 : Nat) : Int) := by omega
            rw [e, int_get (by rw [crow_len]; omega), crow_get (by omega)]
          have a2 : atI ((crow a p (a.length + 1)).map V.int) (0 + (j : Int)) = some (.int (PtM.cost 46 (a.take j) p)) := by
            rw [Int.zero_add, int_get (by rw [crow_len]; omega), crow_get (by omega)]
          have a3 : atI ((crow a (p ++ [y]) (j + 1)).map V.int) (0 + (j : Int)) = some (.int (PtM.cost 46 (a.take j) (p ++ [y]))) := by
            rw [Int.zero_add, int_get (by rw [crow_len]; omega), crow_get (by omega)]
          have a4 : atI (sOf a).cps.toList (0 + (j : Int)) = some (a.getD j 0) := by rw [Int.zero_add]; exact at_str hj
          have hst := cost_step (p := p) hj pa.2 hyl
          have hif : (if (!decide (V.str ⟨#[a.getD j 0]⟩ = V.str ⟨#[y]⟩)) = true then (1 : Int) else 0) = if a.getD j 0 = y then 0 else 1 := by
            by_cases e : a.getD j 0 = y
            · rw [e, decide_eq_true rfl, if_pos rfl]
              rfl
            · have : ¬ (V.str ⟨#[a.getD j 0]⟩ = V.str ⟨#[y]⟩) := fun z => e (by
                have := sOf_inj (a := [a.getD j 0]) (b := [y]) (V.str.inj z)
                simpa using this)
              rw [decide_eq_false this, if_neg e]
              rfl
          refine ⟨_, rfl, .inl ⟨rfl, _, SqL.of hB⟩, _, rfl, _, rfl, _, _, rfl, rfl, rw, _, _, _, rfl, rfl, SqL.of hR4, a1, _, _, rfl, rfl, _, rfl, _, rfl, bl, _, _, _, rfl, rfl, SqL.of hB, a3, _, _, rfl, rfl, _, rfl, _, rfl, rw, _, _, _, rfl, rfl, SqL.of hR4, a2, _, rfl, _, rfl, _, _, _, rfl, rfl, plen pa, a4, _, rfl, rfl, .inr ⟨_, rfl, _, _, rfl, rfl, _, _, _, _, rfl, min3I _ _ _, bl, _, _, rfl, rfl, hB, bigS _ (by simp [crow_len]; omega), ?_⟩⟩
          refine ⟨_, rfl, same_upd s4 hbl, ?_⟩
          rw [upd_same, crow_succ a (p ++ [y]) (j + 1), List.map_append, hst, hif, Int.min_comm (PtM.cost 46 (a.take j) (p ++ [y]) + 1)]
          rfl
        · rintro σ3 H4 ⟨v8, rfl, s4, hB⟩
          have ea : ((a.length : Int)).toNat = a.length := by omega
          rw [ea] at hB
          have hQ4 := s4 _ _ hQ
          have hlast : atI ((crow a (p ++ [y]) (a.length + 1)).map V.int) (-1) = some (.int (PtM.cost 46 a (p ++ [y]))) := by
            refine at_last ?_
            rw [List.length_map, crow_len, List.getElem?_map]
            have e : (crow a (p ++ [y]) (a.length + 1))[a.length + 1 - 1]? = some (PtM.cost 46 a (p ++ [y])) := by
              simp [crow]
            rw [e]
            rfl
          refine ⟨_, rfl, ?_⟩
          refine ⟨_, rfl, .inl ⟨rfl, _, SqL.of hQ4⟩, _, rfl, _, rfl, bl, _, _, _, rfl, rfl, SqL.of hB, hlast, q, _, _, rfl, rfl, hQ4, bigS _ (by simp; omega), ?_⟩
          refine ⟨bl, _, _, _, rfl, same_upd (s2.trans s4) hq0, nbq.symm, (upd_ne nbq.symm).trans hB, ?_⟩
          have et : T.take (n + 1) = p ++ [y] := by rw [take_snocN hnT, eyn, ← hp]
          rw [upd_same, List.range_succ (n := n + 1), List.map_append, List.map_append]
          simp only [List.map_cons, List.map_nil, et]
      · rintro σ2 H2 ⟨rw, u6, u7, u8, rfl, s2, hne, hR, hQ⟩
        have ezl : (sOf T).cps.size = b.length - i := by simp [sOf, lT]
        rw [ezl] at hQ
        have hF2 := s2 _ _ hF
        have erow : (List.range (b.length - i + 1)).map (fun k => PtM.cost 46 a (T.take k)) = (costTab a b).getD i [] := by
          rw [costTab_row a b hi, hT]
          have : b.length - i + 1 = b.length + 1 - i := by omega
          rw [this]
        rw [erow] at hQ
        have hqf : q ≠ f := fun z => by subst z; rw [hq0] at hF; cases hF
        refine ⟨_, rfl, .inl ⟨rfl, _, SqL.of hF2⟩, _, rfl, f, _, _, rfl, rfl, hF2, bigS _ (by rw [RL_len]; omega), ?_⟩
        refine ⟨_, _, _, _, _, _, cs ++ [q], rfl, same_upd (s.trans s2) hf, by rw [upd_same]; simp [RL], by simp; omega, fun j hj => ?_⟩
        rw [getD_snoc, hcs]
        by_cases c : j < i
        · rw [if_pos c]
          have q3 := s2 _ _ (hcj j c)
          exact (upd_ne (Lne hF2 (by omega) q3)).trans q3
        · have : j = i := by omega
          subst this
          rw [if_neg c, if_pos rfl]
          exact (upd_ne hqf).trans hQ
    · rintro σ H1 ⟨v3, v4, v5, v6, v7, v8, cs, rfl, s, hF, hcs, hcj⟩
      have e : ((b.length : Int) + 1).toNat = b.length + 1 := by omega
      rw [e] at hcs hcj
      exact ⟨_, rfl, k _ _ s ⟨f, rfl, hf, cs, hF, by rw [hcs, costTab_len], fun j hj => hcj j (by rw [costTab_len] at hj; exact hj)⟩⟩
end Pt
end
section
set_option maxRecDepth 100000
set_option maxHeartbeats 4000000
namespace Pt
open PySem PySem.Spec PyProof.Rows L2
theorem genRow_one (b : Nat) (row : List Int) (m : Int) : genRow b row m 1 = [] := by simp [genRow, List.range_succ]
def sp__law_near : Sp := fun vs H Q _ => ∃ (a : Addr) (C : List (List Int)) (m : Int), vs = [.ref a, .int m] ∧ CostAt H a C ∧ C.length ≤ 25 ∧ (∀ b, (C.getD b []).length ≤ 25) ∧ Ret (fun v H' => ∃ r rows, v = .ref r ∧ H r = none ∧ T3 H' r rows ∧ Near C m rows) H Q
abbrev sc__law_near_N : List Str := ["_law_costs_here", "_law_most", "_law_found", "_law_begin", "_law_many"]
theorem sc__law_near : FnScope sc__law_near_N ["_law_costs_here", "_law_most"] (defScope s__law_near) := ⟨rfl, rfl, rfl, by decide +kernel, rfl, by decide +kernel, by decide +kernel⟩
theorem ok__law_near {P : Program} {w : World} {K : PySem.W.Frag} {mg : Str → Option Value} {base : Heap} (T : Tx K mg) : Fn P w K mg base "_law_near" ["_law_costs_here", "_law_most"] (1) sp__law_near := by
  obtain ⟨fd, F⟩ := T.D__law_near
  refine ⟨_, fd, T.g__law_near, F.kp, F.bindsN (fun _ _ _ _ _ _ us hl => match us, hl with | [_, _], _ => rfl), F.ok sc__law_near (fun vs H Q E h => ?_) (fun cdv A outer s H vs Q E hr h => ?_)⟩
  · (obtain ⟨a, C, m, rfl, ⟨cs, ha, hcl, hc⟩, hz, hw, k⟩ := h)
    rfl
  · (obtain ⟨a, C, m, rfl, ⟨cs, ha, hcl, hc⟩, hz, hw, k⟩ := h)
    refine ⟨_, PSs.nox (pss_cons (ps_set (i := 2) sc__law_near.nd rfl (Or.inl rfl) (pe_lst pa_nil))
      (pss_cons (ps_for PassesOwn.never rfl (pi_range1 rfl T.z_range (pa_cons (pe_callB call_len_seq (by rfl) T.z_len (by decide +kernel) (pa_cons (pv 0) pa_nil)) pa_nil)) (pg_name (i := 3) sc__law_near.nd rfl (Or.inl rfl))
      (pss_one (ps_for PassesOwn.never rfl (pi_range2 rfl T.z_range (pa_cons pe_int (pa_cons (pe_callB call_len_seq (by rfl) T.z_len (by decide +kernel) (pa_cons (pe_ix ix_list (pv 0) (pv 3) (fun _ _ => rfl)) pa_nil)) pa_nil))) (pg_name (i := 4) sc__law_near.nd rfl (Or.inl rfl))
      (pss_one (ps_if (pt_cmpR op_le (pe_ix ix_list (pe_ix ix_list (pv 0) (pv 3) (fun _ _ => rfl)) (pv 4) (fun _ _ => rfl)) (pv 1) (nomark _)) (pss_one (ps_expr (pe_bm PySem.F.plainAttrs_list PySem.F.slot_list_append PySem.F.type_list_append mt_append (pv 2) (pa_cons (pe_tup (pa_cons (pe_ix ix_list (pe_ix ix_list (pv 0) (pv 3) (fun _ _ => rfl)) (pv 4) (fun _ _ => rfl)) (pa_cons (pv 3) (pa_cons (pe_op op_add (pv 3) (pv 4)) pa_nil)))) pa_nil)))) pss_nil)))))
      (pss_one (ps_ret (pe_callB cr_sorted3 (by rfl) T.z_sorted (by decide +kernel) (pa_cons (pv 2) pa_nil)))))), ?_⟩
    refine ⟨Nat.zero_le _, fun f hf => ?_⟩
    have s0 := same_new hf (o := .lst [])
    refine ⟨_, rfl, a, _, rfl, .inl (SqL.of (s0 _ _ ha)), (C.length : Int), by rw [RL_len, hcl], by omega, by omega, for_range (fun i σ H' => ∃ (v3 v4 : Option V) (ts : List Addr), σ = [some (.ref a), some (.int m), some (.ref f), v3, v4] ∧ Same H H' ∧ H' f = some (.lst (RL ts)) ∧ TsAt H' ts (genT C m i))
      ⟨none, none, [], rfl, s0, upd_same, rfl, fun i hi => absurd hi (Nat.not_lt_zero _)⟩ ?_ ?_⟩
    · rintro i σ H1 hi ⟨v3, v4, ts, rfl, s, hF, hT⟩
      have hic : i < C.length := by omega
      have hl := hw i
      have hrow := hc i hic
      have hat : atI (RL cs) (0 + (i : Int)) = some (.ref (cs.getD i 0)) := by rw [Int.zero_add]; exact atI_nat (RL_get (by omega))
      rw [genT_succ]
      generalize hR : C.getD i [] = row at hrow hl
      have ha1 := s _ _ ha
      have lr : (row.map V.int).length = row.length := by simp
      refine ⟨_, rfl, _, rfl, a, _, _, _, rfl, rfl, SqL.of ha1, hat, cs.getD i 0, _, rfl, .inl (SqL.of (s _ _ hrow)), 1, (row.length : Int), by rw [lr], ⟨by omega, by omega, by omega, by omega⟩, for_range (fun j σ H' => ∃ (v4 : Option V) (ts : List Addr), σ = [some (.ref a), some (.int m), some (.ref f), some (.int (0 + (i : Int))), v4] ∧ Same H H' ∧ H' f = some (.lst (RL ts)) ∧ TsAt H' ts (genT C m i ++ genRow i row m (j + 1)))
        ⟨v4, ts, rfl, s, hF, by rw [genRow_one, List.append_nil]; exact hT⟩ ?_ ?_⟩
      · rintro j σ2 H2 hj ⟨v4, ts, rfl, s2, hF, hT⟩
        have hj : j + 1 < row.length := by omega
        have ha2 := s2 _ _ ha
        have hrow2 := s2 _ _ hrow
        have hat2 : atI (row.map V.int) (1 + (j : Int)) = some (.int (row.getD (j + 1) 0)) := by
          have e : (1 + (j : Int)) = ((j + 1 : Nat) : Int) := by omega
          rw [e]; exact int_get hj
        refine ⟨_, rfl, _, rfl, a, _, _, _, rfl, rfl, SqL.of ha2, hat, _, rfl, cs.getD i 0, _, _, _, rfl, rfl, SqL.of hrow2, hat2, _, rfl, _, _, rfl, rfl, _, rfl, ?_⟩
        rw [genRow_succ i row m (j + 1)]
        by_cases c2 : row.getD (j + 1) 0 ≤ m
        · refine iteDT c2 ?_
          rw [if_pos ⟨by omega, c2⟩]
          refine ⟨_, rfl, .inl ⟨rfl, _, SqL.of hF⟩, _, rfl, _, rfl, a, _, _, _, rfl, rfl, SqL.of ha2, hat, _, rfl, cs.getD i 0, _, _, _, rfl, rfl, SqL.of hrow2, hat2, _, rfl, _, rfl, _, rfl, _, _, rfl, rfl, (by show 3 ≤ sizeLine; decide), fun q hq => ?_⟩
          have eq3 : [V.int (row.getD (j + 1) 0), V.int (0 + (i : Int)), (fun x y : Int => V.int (x + y)) (0 + (i : Int)) (1 + (j : Int))] = [V.int (row.getD (j + 1) 0), V.int (i : Int), V.int ((i : Int) + ((j + 1 : Nat) : Int))] := by
            have e1 : (0 + (i : Int)) = (i : Int) := by omega
            have e2 : (0 + (i : Int)) + (1 + (j : Int)) = (i : Int) + ((j + 1 : Nat) : Int) := by omega
            show [_, _, V.int ((0 + (i : Int)) + (1 + (j : Int)))] = _
            rw [e2, e1]
          rw [eq3]
          have w3 := same_new hq (o := .tup [V.int (row.getD (j + 1) 0), V.int (i : Int), V.int ((i : Int) + ((j + 1 : Nat) : Int))])
          have hF3 := w3 _ _ hF
          have htl : ts.length ≤ 1000 := by
            have e3 := hT.1
            have e4 := genT_len (C := C) (m := m) hw i
            have e5 := genRow_len i row m (j + 1)
            have e6 : i * 25 ≤ 25 * 25 := Nat.mul_le_mul_right _ (by omega)
            rw [List.length_append] at e3
            omega
          refine ⟨f, _, _, rfl, rfl, hF3, bigS _ (by rw [RL_len]; omega), ?_⟩
          refine ⟨_, ts ++ [q], rfl, same_upd (s2.trans w3) hf, by rw [upd_same]; simp [RL], ?_⟩
          rw [← List.append_assoc]
          have hT3 := (hT.mono w3).snoc (t := q) (p := (row.getD (j + 1) 0, (i : Int), (i : Int) + ((j + 1 : Nat) : Int))) upd_same
          refine ⟨hT3.1, fun l hl => ?_⟩
          have q3 := hT3.2 l hl
          by_cases e8 : (ts ++ [q]).getD l 0 = f
          · rw [e8] at q3
            have := hF3.symm.trans q3
            cases this
          · exact (upd_ne e8).trans q3
        · refine iteDF c2 ?_
          rw [if_neg (fun z => c2 z.2), List.append_nil]
          exact ⟨_, ts, rfl, s2, hF, hT⟩
      · rintro σ2 H2 ⟨v4, ts, rfl, s2, hF, hT⟩
        refine ⟨_, _, ts, rfl, s2, hF, ?_⟩
        by_cases e : row.length = 0
        · have e2 : ((row.length : Int) - 1).toNat = 0 := by omega
          rw [e2, genRow_one] at hT
          have : genRow i row m row.length = [] := by rw [e]; rfl
          rw [this]
          exact hT
        · have e2 : ((row.length : Int) - 1).toNat + 1 = row.length := by omega
          rw [e2] at hT
          exact hT
    · rintro σ H1 ⟨v3, v4, ts, rfl, s, hF, hT⟩
      have en : (C.length : Int).toNat = C.length := by omega
      rw [en] at hT
      refine ⟨_, rfl, f, _, tripOf H1, rfl, SqL.of hF, fun x hx => ?_, fun ys p hs hp hpn => ?_⟩
      · obtain ⟨t, ht, rfl⟩ := List.mem_map.mp hx
        obtain ⟨j, hj, rfl⟩ := List.mem_iff_getElem.mp ht
        have q := hT.2 j (by rw [← hT.1]; exact hj)
        have e2 : ts.getD j 0 = ts[j] := by simp [List.getD, hj]
        rw [e2] at q
        exact ⟨_, rfl, by rw [tripOf_at q]; exact q⟩
      · obtain ⟨us, qs, rfl, hU, hsr, hpm⟩ := sorted_done hT hs hp
        exact k _ _ (same_upd s (s.free hpn)) ⟨p, qs, rfl, s.free hpn, ⟨us, upd_same, hU.mono (same_new hpn)⟩, hsr, hpm⟩
def sp__law_tuples : Sp := fun vs H Q _ => ∃ (a : Addr) (rs : List (List Int)) (n : Nat), vs = [.ref a, nV n] ∧ RowsI H a rs ∧ rs.length ≤ 1000 ∧ n ≤ 10 ∧ (∀ r ∈ rs, r.length = n) ∧ Ret (fun v _ => v = .bl true) H Q
abbrev sc__law_tuples_N : List Str := ["_law_found", "_law_size", "_law_row_here", "_law_one"]
theorem sc__law_tuples : FnScope sc__law_tuples_N ["_law_found", "_law_size"] (defScope s__law_tuples) := ⟨rfl, rfl, rfl, by decide +kernel, rfl, by decide +kernel, by decide +kernel⟩
theorem ok__law_tuples {P : Program} {w : World} {K : PySem.W.Frag} {mg : Str → Option Value} {base : Heap} (T : Tx K mg) : Fn P w K mg base "_law_tuples" ["_law_found", "_law_size"] (1) sp__law_tuples := by
  obtain ⟨fd, F⟩ := T.D__law_tuples
  refine ⟨_, fd, T.g__law_tuples, F.kp, F.bindsN (fun _ _ _ _ _ _ us hl => match us, hl with | [_, _], _ => rfl), F.ok sc__law_tuples (fun vs H Q E h => ?_) (fun cdv A outer s H vs Q E hr h => ?_)⟩
  · (obtain ⟨a, rs, n, rfl, ⟨ts, ha, hT1, hT2⟩, fr, fn, hq, k⟩ := h)
    rfl
  · (obtain ⟨a, rs, n, rfl, ⟨ts, ha, hT1, hT2⟩, fr, fn, hq, k⟩ := h)
    refine ⟨_, PSs.nox (pss_cons (ps_if (pt_not (pt_val (pe_callB call_isi (by rfl) T.z_isinstance (by decide +kernel) (pa_cons (pv 0) (pa_cons (pe_bltn (v := .ty "list") (by rfl) T.z_list (by decide +kernel) rfl) pa_nil))))) (pss_one (ps_ret pe_bl)) pss_nil)
      (pss_cons (ps_for PassesOwn.never rfl (pi_list (pv 0)) (pg_name (i := 2) sc__law_tuples.nd rfl (Or.inl rfl))
      (pss_cons (ps_if (PW.pt (pw_or (pt_not (pt_val (pe_callB call_isi (by rfl) T.z_isinstance (by decide +kernel) (pa_cons (pv 2) (pa_cons (pe_bltn (v := .ty "tuple") (by rfl) T.z_tuple (by decide +kernel) rfl) pa_nil))))) (pw_or1 (pt_cmpR op_ne (pe_callB call_len_seq (by rfl) T.z_len (by decide +kernel) (pa_cons (pv 2) pa_nil)) (pv 1) (nomark _))))) (pss_one (ps_ret pe_bl)) pss_nil)
      (pss_one (ps_if (pt_not (pt_val (pe_callB (cr_all rfl) (by rfl) T.z_all (by decide +kernel) (pa_cons (pe_lc (own := [("_law_one", 3)]) rfl sc__law_tuples.nd (pi_tup (pv 2)) (blkOk_by (N := sc__law_tuples_N) (sc := defScope s__law_tuples) (by decide +kernel)) (fun _ _ _ _ _ => (pg_name (i := 3) sc__law_tuples.nd rfl (Or.inl rfl))) (fun _ _ _ _ _ => pts_nil) (fun _ _ _ _ _ => (pe_and (pe_callB (call_isiK (K := K) rfl) (by rfl) T.z_isinstance (by decide +kernel) (pa_cons (pv 3) (pa_cons (pe_bltn (v := .ty "int") (by rfl) T.z_int (by decide +kernel) rfl) pa_nil))) (pe_one (pe_not (pe_callB (call_isiK (K := K) rfl) (by rfl) T.z_isinstance (by decide +kernel) (pa_cons (pv 3) (pa_cons (pe_bltn (v := .ty "bool") (by rfl) T.z_bool (by decide +kernel) rfl) pa_nil)))))))) pa_nil)))) (pss_one (ps_ret pe_bl)) pss_nil))))
      (pss_one (ps_ret pe_bl)))), ?_⟩
    refine ⟨_, rfl, _, _, _, _, _, rfl, .ty _, .base (.lst ha), kit_ty (r := true) (by decide +kernel), _, rfl, iteF ?_⟩
    refine ⟨_, rfl, a, rfl, ⟨_, SqL.of ha⟩, for_list (K := K) (a := a) (xs := RL ts) (fun i σ H' => ∃ v2 : Option V, σ = [some (.ref a), some (nV n), v2, none] ∧ Same H H') ⟨none, rfl, Same.refl H⟩ (fun i σ H' _ ⟨_, _, s⟩ => SqL.of (s _ _ ha)) ?_ ?_⟩
    · rintro i x σ H1 hx ⟨v2, rfl, s⟩
      obtain ⟨hb, rfl⟩ := RL_at hx
      have hi : i < rs.length := by rw [← hT1]; exact hb
      have hr : H1 (ts.getD i 0) = some (.tup ((rs.getD i []).map V.int)) := s _ _ (hT2 i hi)
      have hm : rs.getD i [] ∈ rs := by
        have e1 : rs.getD i [] = rs[i] := by simp [List.getD, hi]
        rw [e1]; exact List.getElem_mem hi
      have hln := hq _ hm
      generalize rs.getD i [] = r at hr hln
      have lr : (r.map V.int).length = n := by simpa using hln
      refine ⟨_, rfl, _, _, _, _, _, rfl, .ty _, .base (.tup hr), kit_ty (r := true) (by decide +kernel), _, rfl, iteF ?_⟩
      refine ⟨_, rfl, _, _, rfl, .inr (SqT.of hr), _, rfl, rfl, _, rfl, iteNF (by rw [lr]; rfl) ?_⟩
      refine ⟨_, rfl, _, rfl, ⟨_, SqT.of hr⟩, fun D hD => lcV (walk_tup (xs := r.map V.int)) (by omega) hD (fun _ => .bl true) (fun H' s' => SqT.of (s' _ _ hr)) ?_ ?_⟩
      · rintro j x H2 H3 Q' hj s2 ⟨rfl, hx2⟩ k'
        obtain ⟨hb2, rfl⟩ := int_at hx2
        refine ⟨rfl, _, rfl, _, _, _, _, _, rfl, .ty _, .base (.int _), kit_ty (r := true) (by decide +kernel), _, rfl, iteT ?_⟩
        exact ⟨_, rfl, _, _, _, _, _, rfl, .ty _, .base (.int _), kit_ty (r := false) (by decide +kernel), _, rfl, k' _ (Same.refl _)⟩
      · intro H2 s2 hD2
        refine ⟨D, List.replicate (r.map V.int).length true, rfl, SqL.of ?_, ?_⟩
        · rw [hD2, List.map_const', List.length_range, List.map_replicate]
        · have e : (List.replicate (r.map V.int).length true).all id = true := by simp
          rw [e]
          exact ⟨_, rfl, iteF ⟨_, rfl, s.trans s2⟩⟩
    · rintro σ H1 ⟨v2, rfl, s⟩
      exact k _ _ s rfl
end Pt
end
section
set_option maxRecDepth 100000
set_option maxHeartbeats 4000000
namespace Pt
open PySem PySem.Spec PyProof.Rows L2
theorem toL_len {ps : List I3} {r : List Int} (h : r ∈ ps.map toL) : r.length = 3 := by
  obtain ⟨p, _, rfl⟩ := List.mem_map.mp h
  rfl
def sp__law_news_kind : Sp := fun vs H Q _ => ∃ (r c w m : Addr) (A B : List I3), vs = [.ref r] ∧ NewsAt H r c w m A B ∧ A.length ≤ 1000 ∧ B.length ≤ 1000 ∧ (spans B).Nodup ∧ Ret (fun v _ => v = .bl true) H Q
abbrev sc__law_news_kind_N : List Str := ["_law_found"]
theorem sc__law_news_kind : FnScope sc__law_news_kind_N ["_law_found"] (defScope s__law_news_kind) := ⟨rfl, rfl, rfl, by decide +kernel, rfl, by decide +kernel, by decide +kernel⟩
theorem ok__law_news_kind {P : Program} {w : World} {K : PySem.W.Frag} {mg : Str → Option Value} {base : Heap} (T : Tx K mg) : Fn P w K mg base "_law_news_kind" ["_law_found"] (2) sp__law_news_kind := by
  obtain ⟨fd, F⟩ := T.D__law_news_kind
  refine ⟨_, fd, T.g__law_news_kind, F.kp, F.bindsN (fun _ _ _ _ _ _ us hl => match us, hl with | [_], _ => rfl), F.ok sc__law_news_kind (fun vs H Q E h => ?_) (fun cdv A outer s H vs Q E hr h => ?_)⟩
  · (obtain ⟨r, c, w, m, A, B, rfl, hN, fA, fB, ndB, k⟩ := h)
    rfl
  · (obtain ⟨r, c, w, m, A, B, rfl, hN, fA, fB, ndB, k⟩ := h)
    refine ⟨_, PSs.nox (pss_cons (ps_if (PW.pt (pw_or (pt_not (pt_val (pe_callB call_isi (by rfl) T.z_isinstance (by decide +kernel) (pa_cons (pv 0) (pa_cons (pe_bltn (v := .ty "tuple") (by rfl) T.z_tuple (by decide +kernel) rfl) pa_nil))))) (pw_or1 (pt_cmpR op_ne (pe_callB call_len_seq (by rfl) T.z_len (by decide +kernel) (pa_cons (pv 0) pa_nil)) pe_int (nomark _))))) (pss_one (ps_ret pe_bl)) pss_nil)
      (pss_one (ps_ret (pe_and (pe_fn (ok__law_tuples T) (hr.mono (by decide)) (pa_cons (pe_ix ix_tup (pv 0) pe_int (fun _ _ => rfl)) (pa_cons pe_int pa_nil))) (pe_and (pe_fn (ok__law_tuples T) (hr.mono (by decide)) (pa_cons (pe_ix ix_tup (pv 0) pe_int (fun _ _ => rfl)) (pa_cons pe_int pa_nil))) (pe_one (pe_fn (ok__law_tuples T) (hr.mono (by decide)) (pa_cons (pe_ix ix_tup (pv 0) pe_int (fun _ _ => rfl)) (pa_cons pe_int pa_nil))))))))), ?_⟩
    have hnr := hN.1
    have lc := Nat.le_trans (cameL_len A B) fB
    have lw := Nat.le_trans (cameL_len B A) fA
    refine ⟨_, rfl, _, _, _, _, _, rfl, .ty _, .base (.tup hnr), kit_ty (r := true) (by decide +kernel), _, rfl, iteF ?_⟩
    refine ⟨_, rfl, r, _, rfl, .inr (SqT.of hnr), rfl, _, rfl, iteNF rfl ?_⟩
    refine ⟨_, rfl, r, _, _, _, rfl, rfl, SqT.of hnr, at0, c, _, 3, rfl, hN.2.1.rows, by rw [List.length_map]; exact lc, by decide, fun q hq => toL_len hq, ?_⟩
    rintro v1 H1 s1 rfl
    refine ⟨_, rfl, iteT ?_⟩
    refine ⟨_, rfl, r, _, _, _, rfl, rfl, SqT.of (s1 _ _ hnr), at1, w, _, 3, rfl, hN.2.2.1.rows.mono s1, by rw [List.length_map]; exact lw, by decide, fun q hq => toL_len hq, ?_⟩
    rintro v2 H2 s2 rfl
    have s12 := s1.trans s2
    refine ⟨_, rfl, iteT ?_⟩
    refine ⟨_, rfl, r, _, _, _, rfl, rfl, SqT.of (s12 _ _ hnr), atI_nat (j := 2) rfl, m, _, 6, rfl, hN.2.2.2.mono s12, Nat.le_trans (movedL_len A B _) fB, by decide, fun q hq => (moved_mem ndB hq).2, ?_⟩
    rintro v3 H3 s3 rfl
    exact k _ _ (s12.trans s3) rfl
def sp__law_ranks : Sp := fun vs H Q _ => ∃ (a : Addr) (l : List I3), vs = [.ref a] ∧ T3 H a l ∧ NearOk l ∧ Ret (fun v H' => ∃ d, v = .ref d ∧ H d = none ∧ RkAt H' d l) H Q
abbrev sc__law_ranks_N : List Str := ["_law_rows", "_law_found", "_law_k"]
theorem sc__law_ranks : FnScope sc__law_ranks_N ["_law_rows"] (defScope s__law_ranks) := ⟨rfl, rfl, rfl, by decide +kernel, rfl, by decide +kernel, by decide +kernel⟩
theorem ok__law_ranks {P : Program} {w : World} {K : PySem.W.Frag} {mg : Str → Option Value} {base : Heap} (T : Tx K mg) : Fn P w K mg base "_law_ranks" ["_law_rows"] (1) sp__law_ranks := by
  obtain ⟨fd, F⟩ := T.D__law_ranks
  refine ⟨_, fd, T.g__law_ranks, F.kp, F.bindsN (fun _ _ _ _ _ _ us hl => match us, hl with | [_], _ => rfl), F.ok sc__law_ranks (fun vs H Q E h => ?_) (fun cdv A outer s H vs Q E hr h => ?_)⟩
  · (obtain ⟨a, l, rfl, ⟨ts, ha, hT⟩, hl, k⟩ := h)
    rfl
  · (obtain ⟨a, l, rfl, ⟨ts, ha, hT⟩, hl, k⟩ := h)
    refine ⟨_, PSs.nox (pss_cons (ps_set (i := 1) sc__law_ranks.nd rfl (Or.inl rfl) pe_dnewT)
      (pss_cons (ps_for PassesOwn.never rfl (pi_range1 rfl T.z_range (pa_cons (pe_callB call_len_seq (by rfl) T.z_len (by decide +kernel) (pa_cons (pv 0) pa_nil)) pa_nil)) (pg_name (i := 2) sc__law_ranks.nd rfl (Or.inl rfl))
      (pss_one (ps_dput (hu_of hr) (pv 1) (pe_slice sl_tup (pe_ix ix_list (pv 0) (pv 2) (fun _ _ => rfl)) (po_some pe_int) po_none) (pe_tup (pa_cons (pe_ix ix_tup (pe_ix ix_list (pv 0) (pv 2) (fun _ _ => rfl)) pe_int (fun _ _ => rfl)) (pa_cons (pv 2) pa_nil))) rfl)))
      (pss_one (ps_ret (pv 1))))), ?_⟩
    have few := hl.few
    refine fun d hd => ?_
    have s0 := same_new hd (o := .dT [])
    refine ⟨_, rfl, a, _, rfl, .inl (SqL.of (s0 _ _ ha)), (l.length : Int), by rw [RL_len, hT.1], by omega, by omega, for_range (fun i σ H' => ∃ (v2 : Option V) (qs : List Addr), σ = [some (.ref a), some (.ref d), v2] ∧ Same H H' ∧ qs.length = i ∧ H' d = some (.dT (rkK (l.take i) qs)) ∧ ∀ j, j < i → H' (qs.getD j 0) = some (.tup [.int (l.getD j default).1, .int j]))
      ⟨none, [], rfl, s0, rfl, upd_same, fun j hj => absurd hj (Nat.not_lt_zero _)⟩ ?_ ?_⟩
    · rintro i σ H1 hi ⟨v2, qs, rfl, s, hq, hD, hQ⟩
      have hil : i < l.length := by omega
      have hp := s _ _ (hT.2 i hil)
      have hnw := span_new hl.nd hil
      have etk := take_snoc3 hil
      have ltk : qs.length = (l.take i).length := by rw [List.length_take]; omega
      rw [etk]
      have ha1 := s _ _ ha
      have hat : atI (RL ts) (0 + (i : Int)) = some (.ref (ts.getD i 0)) := by rw [Int.zero_add]; exact atI_nat (RL_get (by rw [hT.1]; exact hil))
      have hi0 : V.int (0 + (i : Int)) = .int i := by rw [Int.zero_add]
      obtain ⟨p, hpe⟩ : ∃ p, p = l.getD i default := ⟨_, rfl⟩
      rw [← hpe] at hp hnw ⊢
      refine ⟨_, rfl, _, rfl, a, _, _, _, rfl, rfl, SqL.of ha1, hat, _, _, _, _, rfl, rfl, SqT.of hp, at0, _, rfl, (by show 2 ≤ sizeLine; decide), fun q hqn => ?_⟩
      rw [hi0]
      have w2 := same_new hqn (o := .tup [.int p.1, .int i])
      refine ⟨_, rfl, _, rfl, _, rfl, a, _, _, _, rfl, rfl, SqL.of (w2 _ _ ha1), atI_nat (RL_get (by rw [hT.1]; exact hil)), _, rfl, _, _, rfl, SqT.of (w2 _ _ hp), sl3, fun kk hkn => ?_⟩
      have w4 := same_new hkn (o := .tup (cutV [.int p.1, .int p.2.1, .int p.2.2] (some 1) none))
      have w3 := w2.trans w4
      have hD3 := w3 _ _ hD
      have hv : valV (rkK (l.take i) qs) (skey (span p)) = none := by rw [rkK_get _ _ _ ltk, if_neg hnw]
      refine ⟨d, _, rfl, .inr ⟨_, skey (span p), kk, hD3, rfl, by rw [upd_same, cut3]; rfl, bigS _ (by simp [rkK]; omega), rfl⟩, ?_⟩
      rw [putK_new _ hv, rkK_snoc ltk]
      refine ⟨_, qs ++ [q], rfl, same_upd (s.trans w3) hd, by simp; omega, upd_same, fun j hj => ?_⟩
      have hne : ∀ {t : Addr} {xs : List V} {H' : Hp}, H' d = some (.dT (rkK (l.take i) qs)) → H' t = some (.tup xs) → t ≠ d := fun e1 e2 z => by subst z; rw [e1] at e2; cases e2
      rw [getD_snoc, hq]
      by_cases c : j < i
      · rw [if_pos c]
        have q3 := w3 _ _ (hQ j c)
        rw [upd_ne (hne hD3 q3)]
        exact q3
      · have : j = i := by omega
        subst this
        rw [if_neg c, if_pos rfl, ← hpe]
        have q3 := w4 _ _ (upd_same (a := q) (o := .tup [.int p.1, .int j]))
        rw [upd_ne (hne hD3 q3)]
        exact q3
    · rintro σ H1 ⟨v2, qs, rfl, s, hq, hD, hQ⟩
      have en : (l.length : Int).toNat = l.length := by omega
      rw [en] at hq hD hQ
      rw [List.take_length] at hD
      exact ⟨_, rfl, k _ _ s ⟨d, rfl, hd, qs, hq, hD, hQ⟩⟩
def StateAt (H : Hp) (a : Addr) (side top : List Nat) (m : Int) : Prop := H a = some (.lst [.str (sOf side), .str (sOf top), .int m])
def sp__law_stretches : Sp := fun vs H Q _ => ∃ (a : Addr) (side top : List Nat) (m : Int), vs = [.ref a] ∧ StateAt H a side top m ∧ Plain side ∧ Plain top ∧ Ret (fun v H' => ∃ r rows, v = .ref r ∧ H r = none ∧ T3 H' r rows ∧ Near (costTab side top) m rows) H Q
abbrev sc__law_stretches_N : List Str := ["_law_state"]
theorem sc__law_stretches : FnScope sc__law_stretches_N ["_law_state"] (defScope s__law_stretches) := ⟨rfl, rfl, rfl, by decide +kernel, rfl, by decide +kernel, by decide +kernel⟩
theorem ok__law_stretches {P : Program} {w : World} {K : PySem.W.Frag} {mg : Str → Option Value} {base : Heap} (T : Tx K mg) : Fn P w K mg base "_law_stretches" ["_law_state"] (2) sp__law_stretches := by
  obtain ⟨fd, F⟩ := T.D__law_stretches
  refine ⟨_, fd, T.g__law_stretches, F.kp, F.bindsN (fun _ _ _ _ _ _ us hl => match us, hl with | [_], _ => rfl), F.ok sc__law_stretches (fun vs H Q E h => ?_) (fun cdv A outer s H vs Q E hr h => ?_)⟩
  · (obtain ⟨a, side, top, m, rfl, ha, ps, pt, k⟩ := h)
    rfl
  · (obtain ⟨a, side, top, m, rfl, ha, ps, pt, k⟩ := h)
    refine ⟨_, PSs.nox (pss_one (ps_ret (pe_fn (ok__law_near T) (hr.mono (by decide)) (pa_cons (pe_fn (ok__law_costs T) (hr.mono (by decide)) (pa_cons (pe_ix ix_list (pv 0) pe_int (fun _ _ => rfl)) (pa_cons (pe_ix ix_list (pv 0) pe_int (fun _ _ => rfl)) pa_nil))) (pa_cons (pe_ix ix_list (pv 0) pe_int (fun _ _ => rfl)) pa_nil))))), ?_⟩
    have zt := pt.1
    refine ⟨_, rfl, a, _, _, _, rfl, rfl, SqL.of ha, at0, _, rfl, a, _, _, _, rfl, rfl, SqL.of ha, at1, side, top, rfl, ps, pt, ?_⟩
    rintro v1 H1 s1 ⟨r1, rfl, hr1, hC⟩
    refine ⟨_, rfl, a, _, _, _, rfl, rfl, SqL.of (s1 _ _ ha), atI_nat (j := 2) rfl, r1, costTab side top, m, rfl, hC, by rw [costTab_len]; omega, fun b => by rw [costTab_rlen]; omega, ?_⟩
    rintro v2 H2 s2 ⟨r, rows, rfl, hr, hT, hN⟩
    exact k _ _ (s1.trans s2) ⟨r, rows, rfl, s1.free hr, hT, hN⟩
end Pt
end
section
set_option maxRecDepth 100000
set_option maxHeartbeats 4000000
namespace Pt
open PySem PySem.Spec PyProof.Rows L2
def sp__law_news : Sp := fun vs H Q _ => ∃ (a b : Addr) (A B : List I3), vs = [.ref a, .ref b] ∧ T3 H a A ∧ T3 H b B ∧ NearOk A ∧ NearOk B ∧ Ret (fun v H' => ∃ r c w m, v = .ref r ∧ NewsAt H' r c w m A B) H Q
abbrev sc__law_news_N : List Str := ["_law_ahead", "_law_behind", "_law_elder", "_law_newer", "_law_came", "_law_lost", "_law_shifted", "_law_row_here", "_law_price", "_law_rank"]
theorem sc__law_news : FnScope sc__law_news_N ["_law_ahead", "_law_behind"] (defScope s__law_news) := ⟨rfl, rfl, rfl, by decide +kernel, rfl, by decide +kernel, by decide +kernel⟩
theorem ok__law_news {P : Program} {w : World} {K : PySem.W.Frag} {mg : Str → Option Value} {base : Heap} (T : Tx K mg) : Fn P w K mg base "_law_news" ["_law_ahead", "_law_behind"] (2) sp__law_news := by
  obtain ⟨fd, F⟩ := T.D__law_news
  refine ⟨_, fd, T.g__law_news, F.kp, F.bindsN (fun _ _ _ _ _ _ us hl => match us, hl with | [_, _], _ => rfl), F.ok sc__law_news (fun vs H Q E h => ?_) (fun cdv A outer s H vs Q E hr h => ?_)⟩
  · (obtain ⟨a, b, A, B, rfl, ha, hb, hA, hB, k⟩ := h)
    rfl
  · (obtain ⟨a, b, A, B, rfl, ha, hb, hA, hB, k⟩ := h)
    refine ⟨_, PSs.nox (pss_cons (ps_set (i := 2) sc__law_news.nd rfl (Or.inr rfl) (pe_fn (ok__law_ranks T) (hr.mono (by decide)) (pa_cons (pv 0) pa_nil)))
      (pss_cons (ps_set (i := 3) sc__law_news.nd rfl (Or.inr rfl) (pe_fn (ok__law_ranks T) (hr.mono (by decide)) (pa_cons (pv 1) pa_nil)))
      (pss_cons (ps_setLc (i := 4) (own := [("_law_row_here", 7)]) rfl sc__law_news.nd rfl rfl (sw_true rfl rfl rfl (by decide +kernel)) (pi_list (pv 1)) (blkOk_by (N := sc__law_news_N) (sc := defScope s__law_news) (by decide +kernel)) (fun _ _ _ _ _ => (pg_name (i := 7) sc__law_news.nd rfl (Or.inl rfl))) (fun _ _ _ _ _ => (pts_one (pt_cmp (pc_dnotin (hu_of hr) (pe_slice (sl_tupK (K := K) rfl) (pv 7) (po_some pe_int) po_none) (pv 2))))) (fun _ _ _ _ _ => (pv 7)))
      (pss_cons (ps_setLc (i := 5) (own := [("_law_row_here", 7)]) rfl sc__law_news.nd rfl rfl (sw_true rfl rfl rfl (by decide +kernel)) (pi_list (pv 0)) (blkOk_by (N := sc__law_news_N) (sc := defScope s__law_news) (by decide +kernel)) (fun _ _ _ _ _ => (pg_name (i := 7) sc__law_news.nd rfl (Or.inl rfl))) (fun _ _ _ _ _ => (pts_one (pt_cmp (pc_dnotin (hu_of hr) (pe_slice (sl_tupK (K := K) rfl) (pv 7) (po_some pe_int) po_none) (pv 3))))) (fun _ _ _ _ _ => (pv 7)))
      (pss_cons (ps_set (i := 6) sc__law_news.nd rfl (Or.inl rfl) (pe_lst pa_nil))
      (pss_cons (ps_for PassesOwn.never rfl (pi_list (pv 1)) (pg_name (i := 7) sc__law_news.nd rfl (Or.inl rfl))
      (pss_one (ps_if (pt_cmp (pc_din (hu_of hr) (pe_slice sl_tup (pv 7) (po_some pe_int) po_none) (pv 2))) (pss_cons (ps_asg (pe_dget (hu_of hr) (pv 2) (pe_slice sl_tup (pv 7) (po_some pe_int) po_none) (fun _ _ => rfl)) (pg_tup (by rfl) (pgs_cons (pg_name (i := 8) sc__law_news.nd rfl (Or.inl rfl)) (pgs_cons (pg_name (i := 9) sc__law_news.nd rfl (Or.inl rfl)) pgs_nil))))
      (pss_one (ps_if (pt_cmpR (op_neD hr.units) (pe_tup (pa_cons (pv 8) (pa_cons (pv 9) pa_nil))) (pe_dget (hu_of hr) (pv 3) (pe_slice sl_tup (pv 7) (po_some pe_int) po_none) (fun _ _ => rfl)) (nomark _)) (pss_one (ps_expr (pe_bm PySem.F.plainAttrs_list PySem.F.slot_list_append PySem.F.type_list_append mt_append (pv 6) (pa_cons (pe_tup (pa_cons (pe_ix ix_tup (pv 7) pe_int (fun _ _ => rfl)) (pa_cons (pe_ix ix_tup (pv 7) pe_int (fun _ _ => rfl)) (pa_cons (pv 8) (pa_cons (pe_ix ix_tup (pv 7) pe_int (fun _ _ => rfl)) (pa_cons (pv 9) (pa_cons (pe_ix ix_tup (pe_dget (hu_of hr) (pv 3) (pe_slice sl_tup (pv 7) (po_some pe_int) po_none) (fun _ _ => rfl)) pe_int (fun _ _ => rfl)) pa_nil))))))) pa_nil)))) pss_nil))) pss_nil)))
      (pss_one (ps_ret (pe_tup (pa_cons (pv 4) (pa_cons (pv 5) (pa_cons (pv 6) pa_nil)))))))))))), ?_⟩
    have fA := hA.few
    have fB := hB.few
    refine ⟨_, rfl, a, A, rfl, ha, hA, ?_⟩
    rintro v1 H1 s1 ⟨d1, rfl, hd1, hR1⟩
    refine ⟨_, rfl, b, B, rfl, hb.mono s1, hB, ?_⟩
    rintro v2 H2 s2 ⟨d2, rfl, hd2, hR2⟩
    have s12 := s1.trans s2
    have hR1 := hR1.mono s2
    obtain ⟨qa, lqa, hda, hqa⟩ := id hR1
    obtain ⟨qb, lqb, hdb, hqb⟩ := id hR2
    obtain ⟨ta, hta, hTa⟩ := ha.mono s12
    obtain ⟨tb, htb, hTb⟩ := hb.mono s12
    -- came
    refine ⟨_, rfl, b, rfl, ⟨_, SqL.of htb⟩, fun c hc => lcF (walk_list (xs := RL tb)) (by rw [RL_len, hTb.1]; omega) hc (fun i => !(spans A).contains (span (B.getD i default))) (fun i => .ref (tb.getD i 0)) (fun H' s => SqL.of (s _ _ htb)) ?_ ?_⟩
    · rintro i x H3 H4 Qt Qf hi s ⟨rfl, hx⟩ kt kf
      obtain ⟨hbd, rfl⟩ := RL_at hx
      have hp := s _ _ (hTb.2 i (by rw [← hTb.1]; exact hbd))
      refine ⟨rfl, _, rfl, _, rfl, _, _, rfl, SqT.of hp, sl3, fun p hpn => ?_⟩
      have w1 := same_new hpn (o := .tup (cutV [.int (B.getD i default).1, .int (B.getD i default).2.1, .int (B.getD i default).2.2] (some 1) none))
      refine ⟨_, rfl, d1, _, rfl, DGet.t (k := skey (span (B.getD i default))) (w1 _ _ (s _ _ hda)) (by rw [upd_same, cut3]; rfl), _, rfl, ?_⟩
      rw [rkK_get _ _ _ lqa]
      by_cases e : span (B.getD i default) ∈ spans A
      · rw [if_pos e]
        exact iteF (kf _ w1 (nc_f e))
      · rw [if_neg e]
        exact iteT ⟨_, rfl, kt _ w1 (nc_t e)⟩
    intro H3 s3 hc3
    rw [RL_len, hTb.1] at hc3
    obtain ⟨uc, ec, hUc⟩ := filt_ts (hTb.mono s3) (fun p => !(spans A).contains (span p))
    rw [ec] at hc3
    have hC3 : T3 H3 c (cameL A B) := ⟨uc, hc3, hUc⟩
    -- lost
    refine ⟨_, rfl, a, rfl, ⟨_, SqL.of (s3 _ _ hta)⟩, fun w hw => lcF (walk_list (xs := RL ta)) (by rw [RL_len, hTa.1]; omega) hw (fun i => !(spans B).contains (span (A.getD i default))) (fun i => .ref (ta.getD i 0)) (fun H' s => SqL.of (s _ _ (s3 _ _ hta))) ?_ ?_⟩
    · rintro i x H4 H5 Qt Qf hi s ⟨rfl, hx⟩ kt kf
      obtain ⟨hbd, rfl⟩ := RL_at hx
      have hp := s _ _ (s3 _ _ (hTa.2 i (by rw [← hTa.1]; exact hbd)))
      refine ⟨rfl, _, rfl, _, rfl, _, _, rfl, SqT.of hp, sl3, fun p hpn => ?_⟩
      have w1 := same_new hpn (o := .tup (cutV [.int (A.getD i default).1, .int (A.getD i default).2.1, .int (A.getD i default).2.2] (some 1) none))
      refine ⟨_, rfl, d2, _, rfl, DGet.t (k := skey (span (A.getD i default))) (w1 _ _ (s _ _ (s3 _ _ hdb))) (by rw [upd_same, cut3]; rfl), _, rfl, ?_⟩
      rw [rkK_get _ _ _ lqb]
      by_cases e : span (A.getD i default) ∈ spans B
      · rw [if_pos e]
        exact iteF (kf _ w1 (nc_f e))
      · rw [if_neg e]
        exact iteT ⟨_, rfl, kt _ w1 (nc_t e)⟩
    intro H4 s4 hw4
    rw [RL_len, hTa.1] at hw4
    obtain ⟨uw, ew, hUw⟩ := filt_ts ((hTa.mono s3).mono s4) (fun p => !(spans B).contains (span p))
    rw [ew] at hw4
    have hW4 : T3 H4 w (cameL B A) := ⟨uw, hw4, hUw⟩
    have hC4 := hC3.mono s4
    have s24 := s3.trans s4
    have s14 := s12.trans s24
    refine ⟨Nat.zero_le _, fun m hm => ?_⟩
    have w5 := same_new hm (o := .lst [])
    have hda4 := s24 _ _ hda
    have hdb4 := s24 _ _ hdb
    have htb4 := s24 _ _ htb
    refine ⟨_, rfl, b, rfl, ⟨_, SqL.of (w5 _ _ htb4)⟩, for_list (K := K) (a := b) (xs := RL tb) (fun i σ H' => ∃ (v7 v8 v9 : Option V) (ts : List Addr), σ = [some (.ref a), some (.ref b), some (.ref d1), some (.ref d2), some (.ref c), some (.ref w), some (.ref m), v7, v8, v9] ∧ Same H4 H' ∧ H' m = some (.lst (RL ts)) ∧ RsAt H' ts (movedL A B i))
      ⟨none, none, none, [], rfl, w5, upd_same, rfl, fun i hi => absurd hi (Nat.not_lt_zero _)⟩ (fun i σ H' _ ⟨_, _, _, _, _, s, _⟩ => SqL.of (s _ _ htb4)) ?_ ?_⟩
    · rintro i x σ H6 hx ⟨v7, v8, v9, ts, rfl, s, hM, hR⟩
      obtain ⟨hbd, rfl⟩ := RL_at hx
      have hiB : i < B.length := by rw [← hTb.1]; exact hbd
      have hp := s _ _ (s24 _ _ (hTb.2 i hiB))
      have hqi := s _ _ (s24 _ _ (hqb i hiB))
      have hda6 := s _ _ hda4
      have hdb6 := s _ _ hdb4
      have hlen : ts.length ≤ i := by rw [hR.1]; exact movedL_len _ _ _
      obtain ⟨p, hpe⟩ : ∃ p, p = B.getD i default := ⟨_, rfl⟩
      have hidx : (spans B).idxOf (span p) = i := by
        have e1 : span p = (spans B)[i]'(by simpa using hiB) := by
          rw [hpe]
          simp [spans, List.getD, hiB]
        rw [e1]
        exact List.Nodup.idxOf_getElem hB.nd i _
      have hmB : span p ∈ spans B := by rw [hpe]; exact List.mem_map.mpr ⟨_, getD_mem hiB, rfl⟩
      rw [← hpe] at hp hqi
      rw [movedL_succ, ← hpe]
      have hg := rkK_get A qa (span p) lqa
      have hg2 := rkK_get B qb (span p) lqb
      rw [if_pos hmB, hidx] at hg2
      refine ⟨_, rfl, _, rfl, _, _, rfl, SqT.of hp, sl3, fun k1 hk1 => ?_⟩
      have w1 := same_new hk1 (o := .tup (cutV [.int p.1, .int p.2.1, .int p.2.2] (some 1) none))
      have s1' := s.trans w1
      refine ⟨_, rfl, d1, _, rfl, DGet.t (k := skey (span p)) (w1 _ _ hda6) (by rw [upd_same, cut3]; rfl), _, rfl, ?_⟩
      by_cases e : span p ∈ spans A
      · rw [if_pos e] at hg
        rw [hg]
        refine iteT ?_
        have hj : (spans A).idxOf (span p) < A.length := by
          have := List.idxOf_lt_length_iff.mpr e
          simpa using this
        have hqj := s _ _ (s24 _ _ (hqa _ hj))
        obtain ⟨j, hje⟩ : ∃ j, j = (spans A).idxOf (span p) := ⟨_, rfl⟩
        obtain ⟨c0, hce⟩ : ∃ c0, c0 = (A.getD j default).1 := ⟨_, rfl⟩
        rw [← hje] at hqj hg
        rw [← hce] at hqj
        have hmv : movedAt A p i = if c0 = p.1 ∧ j = i then none else some [p.2.1, p.2.2, c0, p.1, (j : Int), (i : Int)] := by
          unfold movedAt
          simp only [if_pos e, ← hje, ← hce]
        refine ⟨_, rfl, _, rfl, _, rfl, _, _, rfl, SqT.of (w1 _ _ hp), sl3, fun k2 hk2 => ?_⟩
        have w2 := w1.trans (same_new hk2 (o := .tup (cutV [.int p.1, .int p.2.1, .int p.2.2] (some 1) none)))
        refine ⟨d1, _, rfl, hg ▸ DGet.t (k := skey (span p)) (w2 _ _ hda6) (by rw [upd_same, cut3]; rfl), ?_⟩
        refine ⟨_, _, rfl, SqT.of (w2 _ _ hqj), rfl, _, _, rfl, _, _, rfl, rfl, ?_⟩
        refine ⟨_, rfl, _, rfl, (by show 2 ≤ sizeLine; decide), fun t1 ht1 => ?_⟩
        have w3 := w2.trans (same_new ht1 (o := .tup [.int c0, .int j]))
        refine ⟨_, rfl, _, rfl, _, rfl, _, _, rfl, SqT.of (w3 _ _ hp), sl3, fun k3 hk3 => ?_⟩
        have w4 := same_new hk3 (o := .tup (cutV [.int p.1, .int p.2.1, .int p.2.2] (some 1) none))
        have w34 := w3.trans w4
        refine ⟨d2, _, rfl, hg2 ▸ DGet.t (k := skey (span p)) (w34 _ _ hdb6) (by rw [upd_same, cut3]; rfl), ?_⟩
        refine ⟨.tuple [.int c0, .int j], .tuple [.int p.1, .int i], .tup (SqT.of (w4 _ _ upd_same)) (.cons (.int _) (.cons (.int _) .nil)), .tup (SqT.of (w34 _ _ hqi)) (.cons (.int _) (.cons (.int _) .nil)), pair_shaped _ _, pair_shaped _ _, _, rfl, ?_⟩
        rw [pair_eqv, hmv]
        have s8 := s.trans w34
        have hM8 := w34 _ _ hM
        have hR8 := hR.mono w34
        by_cases e2 : c0 = p.1 ∧ j = i
        · rw [if_pos e2, decide_eq_true e2.1, decide_eq_true (show (j : Int) = i by rw [e2.2])]
          refine iteF ⟨_, _, _, ts, rfl, s8, hM8, ?_⟩
          simpa using hR8
        · rw [if_neg e2]
          have eb : (!(decide (c0 = p.1) && decide ((j : Int) = i))) = true := by
            by_cases e3 : c0 = p.1
            · have : ¬ (j : Int) = i := fun z => e2 ⟨e3, by omega⟩
              rw [decide_eq_false this]
              simp
            · rw [decide_eq_false e3]
              rfl
          rw [eb]
          refine iteT ?_
          have hp8 := w34 _ _ hp
          refine ⟨_, rfl, .inl ⟨rfl, _, SqL.of hM8⟩, _, rfl, _, _, _, _, rfl, rfl, SqT.of hp8, at1, _, rfl, _, _, _, _, rfl, rfl, SqT.of hp8, atI_nat (j := 2) rfl, _, rfl, _, rfl, _, _, _, _, rfl, rfl, SqT.of hp8, at0, _, rfl, _, rfl, _, rfl, _, rfl, _, _, rfl, SqT.of hp8, sl3, fun k4 hk4 => ?_⟩
          have w5' := same_new hk4 (o := .tup (cutV [.int p.1, .int p.2.1, .int p.2.2] (some 1) none))
          have w35 := w34.trans w5'
          refine ⟨d2, _, rfl, hg2 ▸ DGet.t (k := skey (span p)) (w35 _ _ hdb6) (by rw [upd_same, cut3]; rfl), _, _, _, _, rfl, rfl, SqT.of (w35 _ _ hqi), at1, (by show 6 ≤ sizeLine; decide), fun t2 ht2 => ?_⟩
          have w9 := w5'.trans (same_new ht2 (o := .tup [.int p.2.1, .int p.2.2, .int c0, .int p.1, .int j, .int i]))
          have hM9 := w9 _ _ hM8
          refine ⟨m, _, _, rfl, rfl, hM9, bigS _ (by rw [RL_len]; omega), ?_⟩
          refine ⟨_, _, _, ts ++ [t2], rfl, same_upd (s8.trans w9) hm, by rw [upd_same]; simp [RL], ?_⟩
          have hR9 := (hR8.mono w9).snoc (t := t2) (r := [p.2.1, p.2.2, c0, p.1, (j : Int), (i : Int)]) upd_same
          refine ⟨hR9.1, fun l hl => ?_⟩
          have q9 := hR9.2 l hl
          by_cases e8 : (ts ++ [t2]).getD l 0 = m
          · rw [e8] at q9
            have := hM9.symm.trans q9
            cases this
          · exact (upd_ne e8).trans q9
      · rw [if_neg e] at hg
        rw [hg]
        refine iteF ⟨_, _, _, ts, rfl, s1', w1 _ _ hM, ?_⟩
        have : movedAt A p i = none := by
          unfold movedAt
          simp only [if_neg e]
        rw [this]
        simpa using hR.mono w1
    · rintro σ H6 ⟨v7, v8, v9, ts, rfl, s, hM, hR⟩
      rw [RL_len, hTb.1] at hR
      refine ⟨_, rfl, _, rfl, _, rfl, (by show 3 ≤ sizeLine; decide), fun r hr => ?_⟩
      have w10 := same_new hr (o := .tup [.ref c, .ref w, .ref m])
      exact k _ _ (s14.trans (s.trans w10)) ⟨r, c, w, m, rfl, upd_same, (hC4.mono s).mono w10, (hW4.mono s).mono w10, ts, w10 _ _ hM, hR.mono w10⟩
end Pt
end
section
set_option maxRecDepth 100000
set_option maxHeartbeats 4000000
namespace Pt
open PySem PySem.Spec PyProof.Rows L2
def rkI : List I3 → Nat → List (List Key × V)
  | [], _ => []
  | p :: l, n => (skey (span p), nV n) :: rkI l (n + 1)
theorem rkI_snoc (p : I3) : ∀ (l : List I3) (n : Nat), rkI (l ++ [p]) n = rkI l n ++ [(skey (span p), nV (n + l.length))]
  | [], n => rfl
  | q :: l, n => by
    show (skey (span q), nV n) :: rkI (l ++ [p]) (n + 1) = _
    rw [rkI_snoc p l (n + 1)]
    have : n + 1 + l.length = n + (q :: l).length := by simp; omega
    rw [this]
    rfl
theorem rkI_len : ∀ (l : List I3) (n : Nat), (rkI l n).length = l.length
  | [], _ => rfl
  | q :: l, n => by show (rkI l (n + 1)).length + 1 = _; rw [rkI_len l (n + 1)]; rfl
theorem rkI_get : ∀ (l : List I3) (n : Nat) (s : Spn), valV (rkI l n) (skey s) = if s ∈ spans l then some (nV (n + (spans l).idxOf s)) else none
  | [], n, s => rfl
  | p :: l, n, s => by
    have ih := rkI_get l (n + 1) s
    by_cases e : span p = s
    · have : valV (rkI (p :: l) n) (skey s) = some (nV n) := valV_pos (p := (skey (span p), nV n)) (by rw [e])
      rw [this, if_pos (by simp [spans, e])]
      simp [spans, e]
    · have : valV (rkI (p :: l) n) (skey s) = valV (rkI l (n + 1)) (skey s) := valV_neg (p := (skey (span p), nV n)) (fun z => e (skey_inj z))
      rw [this, ih]
      have e' : (span p == s) = false := by simpa using e
      by_cases m : s ∈ spans l
      · have m2 : s ∈ spans (p :: l) := List.mem_cons_of_mem _ m
        rw [if_pos m, if_pos m2]
        have : (spans (p :: l)).idxOf s = (spans l).idxOf s + 1 := by simp [spans, List.idxOf_cons, e']
        rw [this]
        congr 2
        omega
      · have m2 : ¬ s ∈ spans (p :: l) := fun z => (List.mem_cons.mp z).elim (fun q => e q.symm) m
        rw [if_neg m, if_neg m2]
theorem rank_get (l : List I3) (s : Spn) : (valV (rkI l 0) (skey s)).getD .non = rankV l s := by
  rw [rkI_get]
  unfold rankV
  by_cases m : s ∈ spans l
  · rw [if_pos m, if_pos m, Nat.zero_add]
    rfl
  · rw [if_neg m, if_neg m]
    rfl
def sp__law_ranked_as (K : PySem.W.Frag) : Sp := fun vs H Q _ => ∃ (w x g d st du : Addr) (side top : List Nat) (m : Int) (rows : List I3) (b : Nat), vs = [.ref w, .ref st, .ref du, nV b] ∧ WatchAt K H w x g d side top m rows ∧ StateAt H st side top m ∧ T3 H du rows ∧ b ≤ top.length ∧ Ret (fun v _ => v = .bl true) H Q
abbrev sc__law_ranked_as_N : List Str := ["_law_watch", "_law_state", "_law_due", "_law_begin", "_law_ranks_here", "_law_k", "_law_end", "_law_found"]
theorem sc__law_ranked_as : FnScope sc__law_ranked_as_N ["_law_watch", "_law_state", "_law_due", "_law_begin"] (defScope s__law_ranked_as) := ⟨rfl, rfl, rfl, by decide +kernel, rfl, by decide +kernel, by decide +kernel⟩
theorem ok__law_ranked_as {P : Program} {w : World} {K : PySem.W.Frag} {mg : Str → Option Value} {base : Heap} (T : Tx K mg) : Fn P w K mg base "_law_ranked_as" ["_law_watch", "_law_state", "_law_due", "_law_begin"] (6) (sp__law_ranked_as K) := by
  obtain ⟨fd, F⟩ := T.D__law_ranked_as
  refine ⟨_, fd, T.g__law_ranked_as, F.kp, F.bindsN (fun _ _ _ _ _ _ us hl => match us, hl with | [_, _, _, _], _ => rfl), F.ok sc__law_ranked_as (fun vs H Q E h => ?_) (fun cdv A outer s H vs Q E hr h => ?_)⟩
  · (obtain ⟨w, x, g, d, st, du, side, top, m, rows, b, rfl, hW, hS, ⟨ts, ht, hT⟩, hb, k⟩ := h)
    rfl
  · (obtain ⟨w, x, g, d, st, du, side, top, m, rows, b, rfl, hW, hS, ⟨ts, ht, hT⟩, hb, k⟩ := h)
    refine ⟨_, PSs.nox (pss_cons (ps_set (i := 4) sc__law_ranked_as.nd rfl (Or.inl rfl) pe_dnewT)
      (pss_cons (ps_for PassesOwn.never rfl (pi_range1 rfl T.z_range (pa_cons (pe_callB call_len_seq (by rfl) T.z_len (by decide +kernel) (pa_cons (pv 2) pa_nil)) pa_nil)) (pg_name (i := 5) sc__law_ranked_as.nd rfl (Or.inl rfl))
      (pss_one (ps_dput (hu_of hr) (pv 4) (pe_slice sl_tup (pe_ix ix_list (pv 2) (pv 5) (fun _ _ => rfl)) (po_some pe_int) po_none) (pv 5) rfl)))
      (pss_cons (ps_for PassesOwn.never rfl (pi_range2 rfl T.z_range (pa_cons (pv 3) (pa_cons (pe_op op_add (pe_callB call_len_str (by rfl) T.z_len (by decide +kernel) (pa_cons (pe_ix ix_list (pv 1) pe_int (fun _ _ => rfl)) pa_nil)) pe_int) pa_nil))) (pg_name (i := 6) sc__law_ranked_as.nd rfl (Or.inl rfl))
      (pss_cons (ps_set (i := 7) sc__law_ranked_as.nd rfl (Or.inl rfl) (pe_ms (pv 0) (ok_Watch_rank T) (hr.mono (by decide)) (pa_cons (pv 3) (pa_cons (pv 6) pa_nil))))
      (pss_cons (ps_if (PW.pt (pw_and (pt_cmp (pc_notN (pv 7))) (pw_and1 (pt_not (pt_val (pe_fn (ok__law_tuples T) (hr.mono (by decide)) (pa_cons (pe_lst (pa_cons (pe_tup (pa_cons (pv 7) pa_nil)) pa_nil)) (pa_cons pe_int pa_nil)))))))) (pss_one (ps_ret pe_bl)) pss_nil)
      (pss_one (ps_if (pt_cmpR op_ne (pv 7) (pe_dget1 (hu_of hr) (pv 4) (pe_tup (pa_cons (pv 3) (pa_cons (pv 6) pa_nil))) ⟨by rfl, by rfl, by rfl, by rfl⟩) (nomark _)) (pss_one (ps_ret pe_bl)) pss_nil)))))
      (pss_one (ps_ret pe_bl))))), ?_⟩
    obtain ⟨dx, rw, hw, hWK⟩ := hW.wk
    have hok : NearOk rows := by
      obtain ⟨_, _, _, _, _, hN, ps, pt, h0, h1⟩ := id hW
      exact near_ok pt.1 h1 hN
    have few := hok.few
    have pt : Plain top := hWK.pt
    have zt := pt.1
    refine fun q hq => ?_
    have s0 := same_new hq (o := .dT [])
    dsimp only
    refine seq_mid (fun σ' H' => ∃ v5 : Option V, σ' = [some (.ref w), some (.ref st), some (.ref du), some (nV b), some (.ref q), v5, none, none] ∧ Same H H' ∧ H' q = some (.dT (rkI rows 0))) (fun N hN => ?_) ?_
    · refine ⟨_, rfl, du, _, rfl, .inl (SqL.of (s0 _ _ ht)), (rows.length : Int), by rw [RL_len, hT.1], by omega, by omega, for_range (fun i σ H' => ∃ v5 : Option V, σ = [some (.ref w), some (.ref st), some (.ref du), some (nV b), some (.ref q), v5, none, none] ∧ Same H H' ∧ H' q = some (.dT (rkI (rows.take i) 0)))
        ⟨none, rfl, s0, upd_same⟩ ?_ ?_⟩
      · rintro i σ H1 hi ⟨v5, rfl, s, hD⟩
        have hil : i < rows.length := by omega
        have hp := s _ _ (hT.2 i hil)
        have hnw := span_new hok.nd hil
        have hat : atI (RL ts) (0 + (i : Int)) = some (.ref (ts.getD i 0)) := by rw [Int.zero_add]; exact atI_nat (RL_get (by rw [hT.1]; exact hil))
        have hi0 : V.int (0 + (i : Int)) = nV i := by rw [Int.zero_add]; rfl
        rw [take_snoc3 hil]
        have ltk : (rows.take i).length = i := by rw [List.length_take]; omega
        generalize rows.getD i default = p at hp hnw
        refine ⟨_, rfl, _, rfl, _, rfl, _, rfl, du, _, _, _, rfl, rfl, SqL.of (s _ _ ht), hat, _, rfl, _, _, rfl, SqT.of hp, sl3, fun kk hkn => ?_⟩
        have w4 := same_new hkn (o := .tup (cutV [.int p.1, .int p.2.1, .int p.2.2] (some 1) none))
        have hv : valV (rkI (rows.take i) 0) (skey (span p)) = none := by rw [rkI_get, if_neg hnw]
        refine ⟨q, _, rfl, .inr ⟨_, skey (span p), kk, w4 _ _ hD, rfl, by rw [upd_same, cut3]; rfl, bigS _ (by rw [rkI_len]; omega), rfl⟩, ?_⟩
        rw [putK_new _ hv, rkI_snoc, ltk, Nat.zero_add, ← hi0]
        exact ⟨_, rfl, same_upd (s.trans w4) hq, upd_same⟩
      · rintro σ H1 ⟨v5, rfl, s, hD⟩
        have en : (rows.length : Int).toNat = rows.length := by omega
        rw [en, List.take_length] at hD
        exact hN _ _ ⟨v5, rfl, s, hD⟩
    rintro σ1 H1 ⟨v5, rfl, s1, hD1⟩
    refine ⟨_, rfl, _, rfl, st, _, _, _, rfl, rfl, SqL.of (s1 _ _ hS), at1, _, rfl, plen pt, _, _, rfl, rfl, (b : Int), (top.length : Int) + 1, by rw [sOf_len]; rfl, ⟨by omega, by omega, by omega, by omega⟩, for_range (fun i σ H' => ∃ v6 v7 : Option V, σ = [some (.ref w), some (.ref st), some (.ref du), some (nV b), some (.ref q), v5, v6, v7] ∧ Same H1 H')
      ⟨none, none, rfl, Same.refl _⟩ ?_ ?_⟩
    · rintro i σ H2 hi ⟨v6, v7, rfl, s⟩
      have s2 := s1.trans s
      have ei : V.int ((b : Int) + (i : Int)) = nV (b + i) := addnat b i
      rw [ei]
      refine ⟨_, rfl, w, _, dx, _, rfl, s2 _ _ hw, rfl, rfl, _, rfl, _, rfl, w, x, g, d, side, top, m, rows, b, b + i, rfl, hW.mono s2, by omega, by omega, ?_⟩
      rintro v3 H3 s3 rfl
      have s13 := s.trans s3
      have hD3 := s13 _ _ hD1
      have cmp : ∀ {N : Ends} {σ' : L2.St}, True := trivial
      dsimp only
      refine seq_mid (fun σ' H' => σ' = [some (.ref w), some (.ref st), some (.ref du), some (nV b), some (.ref q), v5, some (nV (b + i)), some (rankV rows ((b : Int), ((b + i : Nat) : Int)))] ∧ Same H1 H') (fun N hN => ?_) ?_
      · refine ⟨_, rfl, _, rfl, ?_⟩
        by_cases e : ((b : Int), ((b + i : Nat) : Int)) ∈ spans rows
        · have er : rankV rows ((b : Int), ((b + i : Nat) : Int)) = nV ((spans rows).idxOf ((b : Int), ((b + i : Nat) : Int))) := by unfold rankV; rw [if_pos e]
          rw [er] at hN ⊢
          refine iteNT (fun z => by cases z) ?_
          refine ⟨_, rfl, (by show 1 ≤ sizeLine; decide), fun p1 hp1 => ⟨(by show 1 ≤ sizeLine; decide), fun p2 hp2 => ?_⟩⟩
          have w1 := same_new hp1 (o := .tup [nV ((spans rows).idxOf ((b : Int), ((b + i : Nat) : Int)))])
          have w2 := same_new hp2 (o := .lst [V.ref p1])
          refine ⟨p2, [[((spans rows).idxOf ((b : Int), ((b + i : Nat) : Int)) : Int)]], 1, rfl, ⟨[p1], upd_same, rfl, fun j hj => ?_⟩, by simp, by decide, fun r hr => by simp at hr; rw [hr]; rfl, ?_⟩
          · have : j = 0 := by simp at hj; omega
            subst this
            exact w2 _ _ upd_same
          · rintro v4 H4 s4 rfl
            exact ⟨_, rfl, iteF (hN _ _ ⟨rfl, s13.trans (w1.trans (w2.trans s4))⟩)⟩
        · have er : rankV rows ((b : Int), ((b + i : Nat) : Int)) = .non := by unfold rankV; rw [if_neg e]
          rw [er] at hN ⊢
          exact iteNF rfl (hN _ _ ⟨rfl, s13⟩)
      rintro σ4 H4 ⟨rfl, s4⟩
      have hD4 := s4 _ _ hD1
      refine ⟨_, rfl, _, rfl, q, rfl, .inr ⟨_, .inl hD4⟩, _, rfl, _, rfl, (by show 2 ≤ sizeLine; decide), fun kk hk => ?_⟩
      have w5 := same_new hk (o := .tup [nV b, nV (b + i)])
      refine ⟨_, DGet.t (k := skey ((b : Int), ((b + i : Nat) : Int))) (w5 _ _ hD4) upd_same, ?_⟩
      rw [rank_get]
      refine ⟨?_, _, rfl, iteNF rfl ⟨_, _, rfl, s4.trans w5⟩⟩
      unfold rankV
      split <;> rfl
    · rintro σ H2 ⟨v6, v7, rfl, s⟩
      exact k _ _ (s1.trans s) rfl
end Pt
end
section
set_option maxRecDepth 100000
set_option maxHeartbeats 4000000
namespace Pt
open PySem PySem.Spec PyProof.Rows L2
def stateD (side top : List Nat) (m : Int) : PyData := .list [.str (sOf side), .str (sOf top), .int m]
theorem str_ok {l : List Nat} (h : Plain l) : PyData.strOk (sOf l) = true := by
  unfold PyData.strOk sOf
  rw [← Array.all_toList, List.all_eq_true]
  intro x hx
  have := h.2 x (by simpa using hx)
  unfold isLet at this
  exact decide_eq_true (by omega)
theorem stateD_shaped {side top : List Nat} (h : Plain side) (h' : Plain top) (m : Int) : SeqAt.shaped (stateD side top m) = true := by
  show (PyData.canLay0 (stateD side top m) && decide (PyData.depth (stateD side top m) ≤ 64)) = true
  rw [Bool.and_eq_true]
  refine ⟨by simp only [stateD, PyData.canLay0, PyData.canLayAll0, str_ok h, str_ok h', Bool.and_true], decide_eq_true ?_⟩
  simp only [stateD, PyData.depth, PyData.depthAll]
  omega
theorem stateD_eqv (side top : List Nat) (m : Int) : PyData.eqv (stateD side top m) (stateD side top m) = true := by
  simp [stateD, PyData.eqv, PyData.eqvAll]
def sp__law_stands (K : PySem.W.Frag) : Sp := fun vs H Q _ => ∃ (w x g d st du he : Addr) (side top : List Nat) (m : Int) (rows : List I3) (n : Nat), vs = [.ref w, .ref st, .ref du, .ref he, nV n] ∧ WatchAt K H w x g d side top m rows ∧ StateAt H st side top m ∧ T3 H du rows ∧ T3 H he rows ∧ Ret (fun v _ => v = .bl true) H Q
abbrev sc__law_stands_N : List Str := ["_law_watch", "_law_state", "_law_due", "_law_heard", "_law_draw", "_law_begin", "_law_found"]
theorem sc__law_stands : FnScope sc__law_stands_N ["_law_watch", "_law_state", "_law_due", "_law_heard", "_law_draw"] (defScope s__law_stands) := ⟨rfl, rfl, rfl, by decide +kernel, rfl, by decide +kernel, by decide +kernel⟩
theorem ok__law_stands {P : Program} {w : World} {K : PySem.W.Frag} {mg : Str → Option Value} {base : Heap} (T : Tx K mg) : Fn P w K mg base "_law_stands" ["_law_watch", "_law_state", "_law_due", "_law_heard", "_law_draw"] (7) (sp__law_stands K) := by
  obtain ⟨fd, F⟩ := T.D__law_stands
  refine ⟨_, fd, T.g__law_stands, F.kp, F.bindsN (fun _ _ _ _ _ _ us hl => match us, hl with | [_, _, _, _, _], _ => rfl), F.ok sc__law_stands (fun vs H Q E h => ?_) (fun cdv A outer s H vs Q E hr h => ?_)⟩
  · (obtain ⟨w, x, g, d, st, du, he, side, top, m, rows, n, rfl, hW, hS, hD, hE, k⟩ := h)
    rfl
  · (obtain ⟨w, x, g, d, st, du, he, side, top, m, rows, n, rfl, hW, hS, hD, hE, k⟩ := h)
    refine ⟨_, PSs.nox (pss_cons (ps_set (i := 5) sc__law_stands.nd rfl (Or.inl rfl) (pe_op op_modNat (pv 4) (pe_op op_add (pe_callB call_len_str (by rfl) T.z_len (by decide +kernel) (pa_cons (pe_ix ix_list (pv 1) pe_int (fun _ _ => rfl)) pa_nil)) pe_int)))
      (pss_cons (ps_if (PW.pt (pw_and (pt_cmpR op_eq (pe_op op_modNat (pv 4) pe_int) pe_int (nomark _)) (pw_and1 (pt_not (pt_val (pe_fn (ok__law_ranked_as T) (hr.mono (by decide)) (pa_cons (pv 0) (pa_cons (pv 1) (pa_cons (pv 2) (pa_cons (pv 5) pa_nil)))))))))) (pss_one (ps_ret pe_bl)) pss_nil)
      (pss_cons (ps_set (i := 6) sc__law_stands.nd rfl (Or.inl rfl) (pe_ms0 (pv 0) (ok_Watch_told T) (hr.mono (by decide))))
      (pss_cons (ps_if (PW.pt (pw_or (pt_not (pt_val (pe_fn (ok__law_tuples T) (hr.mono (by decide)) (pa_cons (pv 6) (pa_cons pe_int pa_nil))))) (pw_or (pt_cmpR (op_neD hr.units) (pv 6) (pv 2) (nomark _)) (pw_or1 (pt_cmpR (op_neD hr.units) (pv 3) (pv 2) (nomark _)))))) (pss_one (ps_ret pe_bl)) pss_nil)
      (pss_cons (ps_expr (pe_bm PySem.F.plainAttrs_list PySem.F.slot_list_append PySem.F.type_list_append mt_append (pv 6) (pa_cons (pe_tup (pa_cons pe_int (pa_cons pe_int (pa_cons pe_int pa_nil)))) pa_nil)))
      (pss_cons (ps_if (PW.pt (pw_or (pt_cmpR (op_neD hr.units) (pe_lst (pa_cons (pe_ms0 (pv 0) (ok_Watch_side T) (hr.mono (by decide))) (pa_cons (pe_ms0 (pv 0) (ok_Watch_top T) (hr.mono (by decide))) (pa_cons (pe_ms0 (pv 0) (ok_Watch_most T) (hr.mono (by decide))) pa_nil)))) (pv 1) (nomark _)) (pw_or1 (pt_val (pe_callB call_isi (by rfl) T.z_isinstance (by decide +kernel) (pa_cons (pe_ms0 (pv 0) (ok_Watch_most T) (hr.mono (by decide))) (pa_cons (pe_bltn (v := .ty "bool") (by rfl) T.z_bool (by decide +kernel) rfl) pa_nil))))))) (pss_one (ps_ret pe_bl)) pss_nil)
      (pss_one (ps_ret (pe_fn (ok__law_ranked_as T) (hr.mono (by decide)) (pa_cons (pv 0) (pa_cons (pv 1) (pa_cons (pv 2) (pa_cons (pv 5) pa_nil))))))))))))), ?_⟩
    obtain ⟨dx, rw, hw, hWK⟩ := hW.wk
    have hok : NearOk rows := by
      obtain ⟨_, _, _, _, _, hN, ps, pt, h0, h1⟩ := id hW
      exact near_ok pt.1 h1 hN
    have few := hok.few
    have pt : Plain top := hWK.pt
    have ps : Plain side := hWK.ps
    have zt := pt.1
    have hS' : H st = some (.lst [.str (sOf side), .str (sOf top), .int m]) := hS
    refine ⟨_, rfl, _, rfl, st, _, _, _, rfl, rfl, SqL.of hS', at1, _, rfl, plen pt, _, _, rfl, rfl, n, top.length + 1, rfl, ?_, by omega, ?_⟩
    · rw [sOf_len]; rfl
    have hb : n % (top.length + 1) ≤ top.length := by have := Nat.mod_lt n (show 0 < top.length + 1 by omega); omega
    generalize n % (top.length + 1) = b at hb
    dsimp only
    refine seq_mid (fun σ' H' => σ' = [some (.ref w), some (.ref st), some (.ref du), some (.ref he), some (nV n), some (nV b), none] ∧ Same H H') (fun N hN => ?_) ?_
    · refine ⟨_, rfl, n, 3, rfl, rfl, by decide, rfl, _, rfl, iteC (fun _ => ?_) (fun _ => hN _ _ ⟨rfl, Same.refl H⟩)⟩
      refine ⟨_, rfl, _, rfl, _, rfl, _, rfl, w, x, g, d, st, du, side, top, m, rows, b, rfl, hW, hS, hD, hb, ?_⟩
      rintro v1 H1 s1 rfl
      exact ⟨_, rfl, iteF (hN _ _ ⟨rfl, s1⟩)⟩
    rintro σ1 H1 ⟨rfl, s1⟩
    have hW1 := hW.mono s1
    have hw1 := s1 _ _ hw
    refine ⟨_, rfl, w, _, dx, _, rfl, hw1, rfl, rfl, w, x, g, d, side, top, m, rows, rfl, hW1, ?_⟩
    rintro v2 H2 s2 ⟨r, rfl, hr, hT⟩
    have s12 := s1.trans s2
    refine ⟨_, rfl, r, _, 3, rfl, hT.rows, by rw [List.length_map]; exact few, by decide, fun q hq => toL_len hq, ?_⟩
    rintro v3 H3 s3 rfl
    have s13 := s12.trans s3
    refine ⟨_, rfl, iteF ?_⟩
    have D1 := (hT.mono s3).rows.dp (K := K)
    have D2 := (hD.mono s13).rows.dp (K := K)
    have D3 := (hE.mono s13).rows.dp (K := K)
    refine ⟨_, rfl, _, rfl, _, _, D1, D2, rowsD_shaped _, rowsD_shaped _, ?_⟩
    rw [rowsD_eqv]
    refine ⟨_, rfl, iteF ?_⟩
    refine ⟨_, rfl, _, rfl, _, _, D3, D2, rowsD_shaped _, rowsD_shaped _, ?_⟩
    rw [rowsD_eqv]
    refine ⟨_, rfl, iteF ?_⟩
    obtain ⟨ts, hts, hT3⟩ := hT.mono s3
    refine ⟨_, rfl, .inl ⟨rfl, _, SqL.of hts⟩, (by show 3 ≤ sizeLine; decide), fun q hq => ?_⟩
    have w4 := same_new hq (o := .tup [V.int 0, V.int 0, V.int 1])
    refine ⟨r, _, _, rfl, rfl, w4 _ _ hts, bigS _ (by rw [RL_len, hT3.1]; omega), ?_⟩
    have hr0 : H r = none := s1.free hr
    have s4 : Same H _ := same_upd (s13.trans w4) hr0 (o := .lst (RL ts ++ [V.ref q]))
    have hW4 := hW.mono s4
    have hw4 := s4 _ _ hw
    have hWK4 := hWK.mono s4
    refine ⟨_, rfl, w, _, dx, _, rfl, hw4, rfl, rfl, w, dx, x, g, d, _, side, top, rfl, hw4, hWK4, ?_⟩
    rintro v5 H5 s5 rfl
    have s45 := s4.trans s5
    refine ⟨_, rfl, w, _, dx, _, rfl, s45 _ _ hw, rfl, rfl, w, dx, x, g, d, _, side, top, rfl, s45 _ _ hw, hWK.mono s45, ?_⟩
    rintro v6 H6 s6 rfl
    have s46 := s45.trans s6
    refine ⟨_, rfl, w, _, dx, _, rfl, s46 _ _ hw, rfl, rfl, w, x, g, d, side, top, m, rows, rfl, hW.mono s46, (by show 3 ≤ sizeLine; decide), fun p hp => ?_⟩
    have s7 := same_upd s46 (s46.free hp) (o := .lst [.str (sOf side), .str (sOf top), .int m])
    have dp0 : ∀ {H' : Hp} {a : Addr}, H' a = some (.lst [.str (sOf side), .str (sOf top), .int m]) → Dp K H' (.ref a) (stateD side top m) := fun h => .lst (SqL.of h) (.cons (.str _) (.cons (.str _) (.cons (.int _) .nil)))
    refine ⟨_, rfl, _, _, dp0 upd_same, dp0 (s7 _ _ hS'), stateD_shaped ps pt m, stateD_shaped ps pt m, ?_⟩
    rw [stateD_eqv]
    refine ⟨_, rfl, iteF ?_⟩
    refine ⟨_, rfl, w, _, dx, _, rfl, s7 _ _ hw, rfl, rfl, w, x, g, d, side, top, m, rows, rfl, hW.mono s7, _, _, _, _, _, rfl, .ty _, .base (.int m), kit_ty (r := false) (by decide +kernel), _, rfl, iteF ?_⟩
    refine ⟨_, rfl, _, rfl, _, rfl, _, rfl, w, x, g, d, st, du, side, top, m, rows, b, rfl, hW.mono s7, s7 _ _ hS', hD.mono s7, hb, ?_⟩
    rintro v8 H8 s8 rfl
    exact k _ _ (s7.trans s8) rfl
end Pt
end
section
set_option maxRecDepth 100000
set_option maxHeartbeats 4000000
namespace Pt
open PySem PySem.Spec PyProof.Rows L2
inductive Deed where
  | put (t : Bool) (pl c : Nat)
  | drop (t : Bool) (pl : Nat)
  | change (t : Bool) (pl c : Nat)
  | limit (m : Int)
structure St3 where
  side : List Nat
  top : List Nat
  m : Int
def b2n (t : Bool) : Nat := if t then 1 else 0
def St3.row (s : St3) (t : Bool) : List Nat := if t then s.top else s.side
def St3.set (s : St3) (t : Bool) (l : List Nat) : St3 := if t then ⟨s.side, l, s.m⟩ else ⟨l, s.top, s.m⟩
structure St3.Ok (s : St3) : Prop where
  ps : Plain s.side
  pt : Plain s.top
  lo : 0 ≤ s.m
  hi : s.m ≤ 48
theorem St3.Ok.row {s : St3} (h : s.Ok) (t : Bool) : Plain (s.row t) := by cases t; exact h.ps; exact h.pt
theorem St3.Ok.set {s : St3} (h : s.Ok) (t : Bool) {l : List Nat} (hl : Plain l) : (s.set t l).Ok := by
  cases t
  · exact ⟨hl, h.pt, h.lo, h.hi⟩
  · exact ⟨h.ps, hl, h.lo, h.hi⟩
def Deed.vs : Deed → List V
  | .put t pl c => [.str "put", nV (b2n t), nV pl, .str (sOf [c])]
  | .drop t pl => [.str "drop", nV (b2n t), nV pl, .str ""]
  | .change t pl c => [.str "change", nV (b2n t), nV pl, .str (sOf [c])]
  | .limit m => [.str "limit", .int 0, .int m, .str ""]
def Deed.Ok (s : St3) : Deed → Prop
  | .put t pl c => pl ≤ (s.row t).length ∧ (s.row t).length < 24 ∧ isLet c
  | .drop t pl => pl < (s.row t).length
  | .change t pl c => pl < (s.row t).length ∧ isLet c
  | .limit m => 0 ≤ m ∧ m ≤ 48
def Deed.run (s : St3) : Deed → St3
  | .put t pl c => s.set t (insL (s.row t) pl c)
  | .drop t pl => s.set t (delL (s.row t) pl)
  | .change t pl c => s.set t (setL (s.row t) pl c)
  | .limit m => ⟨s.side, s.top, m⟩
def Deed.back (s : St3) : Deed → Deed
  | .put t pl _ => .drop t pl
  | .drop t pl => .put t pl ((s.row t).getD pl 0)
  | .change t pl _ => .change t pl ((s.row t).getD pl 0)
  | .limit _ => .limit s.m
theorem row_set (s : St3) (t : Bool) (l : List Nat) : (s.set t l).row t = l := by cases t <;> rfl
theorem set_set (s : St3) (t : Bool) (l l' : List Nat) : (s.set t l).set t l' = s.set t l' := by cases t <;> rfl
theorem set_row (s : St3) (t : Bool) : s.set t (s.row t) = s := by cases t <;> rfl
theorem run_ok {s : St3} (h : s.Ok) {d : Deed} (hd : d.Ok s) : (d.run s).Ok := by
  cases d with
  | put t pl c => exact h.set t (plain_ins (h.row t) hd.2.1 hd.1 hd.2.2)
  | drop t pl => exact h.set t (plain_del (h.row t))
  | change t pl c => exact h.set t (plain_set (h.row t) hd.1 hd.2)
  | limit m => exact ⟨h.ps, h.pt, hd.1, hd.2⟩
theorem getL {l : List Nat} (h : Plain l) {i : Nat} (hi : i < l.length) : isLet (l.getD i 0) := by
  have e1 : l.getD i 0 = l[i] := by simp [List.getD, hi]
  rw [e1]
  exact h.2 _ (List.getElem_mem hi)
theorem del_ins {l : List Nat} {pl c : Nat} (h : pl ≤ l.length) : delL (insL l pl c) pl = l := by
  have lp : (l.take pl).length = pl := by rw [List.length_take]; omega
  unfold delL insL
  have e : l.take pl ++ [c] ++ l.drop pl = l.take pl ++ ([c] ++ l.drop pl) := by simp
  have e2 : (l.take pl ++ [c] ++ l.drop pl).drop (pl + 1) = l.drop pl := List.drop_left' (by simp [lp])
  rw [e2, e, List.take_left' lp, List.take_append_drop]
theorem ins_del {l : List Nat} {pl : Nat} (h : pl < l.length) : insL (delL l pl) pl (l.getD pl 0) = l := by
  have lp : (l.take pl).length = pl := by rw [List.length_take]; omega
  unfold insL delL
  rw [List.take_left' lp, List.drop_left' lp, List.append_assoc, List.singleton_append, ← getD_drop h, List.take_append_drop]
theorem set_set' {l : List Nat} {pl c : Nat} (h : pl < l.length) : setL (setL l pl c) pl (l.getD pl 0) = l := by
  have lp : (l.take pl).length = pl := by rw [List.length_take]; omega
  unfold setL
  have e : l.take pl ++ [c] ++ l.drop (pl + 1) = l.take pl ++ ([c] ++ l.drop (pl + 1)) := by simp
  have e2 : (l.take pl ++ [c] ++ l.drop (pl + 1)).drop (pl + 1) = l.drop (pl + 1) := List.drop_left' (by simp [lp])
  rw [e2, e, List.take_left' lp, List.append_assoc, List.singleton_append, ← getD_drop h, List.take_append_drop]
theorem back_ok {s : St3} (h : s.Ok) {d : Deed} (hd : d.Ok s) : (d.back s).Ok (d.run s) ∧ (d.back s).run (d.run s) = s := by
  cases d with
  | put t pl c =>
    refine ⟨?_, ?_⟩
    · show pl < ((s.set t (insL (s.row t) pl c)).row t).length
      rw [row_set]
      have := hd.1
      unfold insL
      simp
      omega
    · show (s.set t (insL (s.row t) pl c)).set t (delL ((s.set t (insL (s.row t) pl c)).row t) pl) = s
      rw [row_set, set_set, del_ins hd.1, set_row]
  | drop t pl =>
    have hd' : pl < (s.row t).length := hd
    refine ⟨?_, ?_⟩
    · show pl ≤ ((s.set t (delL (s.row t) pl)).row t).length ∧ ((s.set t (delL (s.row t) pl)).row t).length < 24 ∧ isLet _
      rw [row_set]
      have := (h.row t).1
      refine ⟨?_, ?_, getL (h.row t) hd'⟩
      · unfold delL; simp; omega
      · unfold delL; simp; omega
    · show (s.set t (delL (s.row t) pl)).set t (insL ((s.set t (delL (s.row t) pl)).row t) pl _) = s
      rw [row_set, set_set, ins_del hd', set_row]
  | change t pl c =>
    refine ⟨?_, ?_⟩
    · show pl < ((s.set t (setL (s.row t) pl c)).row t).length ∧ isLet _
      rw [row_set]
      have := hd.1
      refine ⟨?_, getL (h.row t) hd.1⟩
      unfold setL
      simp
      omega
    · show (s.set t (setL (s.row t) pl c)).set t (setL ((s.set t (setL (s.row t) pl c)).row t) pl _) = s
      rw [row_set, set_set, set_set' hd.1, set_row]
  | limit m => exact ⟨⟨h.lo, h.hi⟩, rfl⟩
def UndoOk : List Deed → St3 → Prop
  | [], _ => True
  | d :: r, s => d.Ok s ∧ UndoOk r (d.run s)
theorem undo_push {s : St3} (h : s.Ok) {d : Deed} (hd : d.Ok s) {r : List Deed} (hr : UndoOk r s) : UndoOk (d.back s :: r) (d.run s) := by
  obtain ⟨h1, h2⟩ := back_ok h hd
  exact ⟨h1, h2.symm ▸ hr⟩
end Pt
end
section
set_option maxRecDepth 100000
set_option maxHeartbeats 4000000
namespace Pt
open PySem PySem.Spec PyProof.Rows L2
def NoInt (xs : List V) : Prop := ∀ i r, xs ≠ V.int i :: r
theorem noInt_RL (us : List Addr) : NoInt (RL us) := fun i r h => by cases us with
  | nil => cases h
  | cons _ _ => exact absurd (List.cons.inj h).1 (fun z => by cases z)
theorem noInt_str (s : Str) (r : List V) : NoInt (.str s :: r) := fun i r' h => absurd (List.cons.inj h).1 (fun z => by cases z)
section
variable {K : PySem.W.Frag} {H : Hp} {u : Addr} {xs : List V}
theorem PieceAt.hideL (e : H u = some (.lst xs)) (n : NoInt xs) {p : Addr} {a b t : List Nat} (h : PieceAt K H p a b t) (ha : 0 < a.length) : PieceAt K (hide u H) p a b t := by
  have hl := h.len
  obtain ⟨C, dx, l, m, i, h1, h2, h3, h4⟩ := h
  refine ⟨C, dx, l, m, i, h1, hide_ne e h2 (fun z => by cases z), hide_ne e h3 (fun z => ?_), h4⟩
  have z := HO.lst.inj z
  cases t with
  | nil => have := hl.2.2; simp at this; omega
  | cons y r => exact n _ _ z
theorem LimbAt.hideL (e : H u = some (.lst xs)) (n : NoInt xs) {top s : List Nat} {a : Addr} {h : Nat} (q : LimbAt K H top a s h) : LimbAt K (hide u H) top a s h := by
  induction q with
  | leaf h hp => exact .leaf (hide_ne e h (fun z => by cases z)) (hp.hideL e n (by simp))
  | knot h hp hu hl i1 i2 => exact .knot (hide_ne e h (fun z => by cases z)) (hp.hideL e n (by have := hu.pos; simp; omega)) i1 i2
theorem KeptAt.hideL (e : H u = some (.lst xs)) (n : NoInt xs) {x g d : Addr} {top side : List Nat} (h : KeptAt K H x g d top side) : KeptAt K (hide u H) x g d top side := by
  obtain ⟨dk, rv, fr, h1, ⟨dg, k, es, g1, g2, g3, g4⟩, h3⟩ := h
  refine ⟨dk, rv, fr, hide_ne e h1 (fun z => by cases z), ⟨dg, k, es, hide_ne e g1 (fun z => by cases z), hide_ne e g2 (fun z => by cases z), ⟨g3.1, fun q hq => ⟨(g3.2 q hq).1, ?_⟩⟩, g4⟩, h3.imp id fun ⟨r, h, e1, q⟩ => ⟨r, h, e1, q.hideL e n⟩⟩
  obtain ⟨t, ht⟩ := (g3.2 q hq).2
  exact ⟨t, ht.hideL e n (by simp)⟩
theorem T3.hideL (e : H u = some (.lst xs)) {a : Addr} {ps : List I3} (h : T3 H a ps) (ne : a ≠ u) : T3 (hide u H) a ps := by
  obtain ⟨ts, h1, h2⟩ := h
  exact ⟨ts, hide_of h1 ne, h2.1, fun i hi => hide_ne e (h2.2 i hi) (fun z => by cases z)⟩
theorem WatchAt.hideL (e : H u = some (.lst xs)) (n : NoInt xs) {w x g d : Addr} {side top : List Nat} {m : Int} {rows : List I3} (h : WatchAt K H w x g d side top m rows)
    (hr : ∀ dx x m rw, H w = some (.ins (He.ga K "Watch") dx (wFs x m rw)) → rw ≠ u) : WatchAt K (hide u H) w x g d side top m rows := by
  obtain ⟨dx, rw, h1, h2, h3, h4⟩ := h
  exact ⟨dx, rw, hide_ne e h1 (fun z => by cases z), h2.hideL e n, h3.hideL e (hr _ _ _ _ h1), h4⟩
theorem WatchAt.hideS (a : Str) (r : List V) (e : H u = some (.lst (.str a :: r))) {w x g d : Addr} {side top : List Nat} {m : Int} {rows : List I3} (h : WatchAt K H w x g d side top m rows) : WatchAt K (hide u H) w x g d side top m rows := by
  obtain ⟨dx0, rw0, h01, h02, ⟨ts, ht, _⟩, _⟩ := id h
  refine h.hideL e (noInt_str a r) fun dx x' m' rw h1 z => ?_
  rw [h01] at h1
  injection h1 with h1
  injection h1 with _ _ h1
  have h3 : rw0 = rw := V.ref.inj (Prod.mk.inj (List.cons.inj (List.cons.inj (List.cons.inj h1).2).2).1).2
  subst h3
  subst z
  rw [e] at ht
  have := HO.lst.inj (Option.some.inj ht)
  cases ts with
  | nil => cases this
  | cons _ _ => exact absurd (List.cons.inj this).1 (fun z => by cases z)
end
theorem getL_row {l : List V} {i : Nat} {v : V} (h : l[i]? = some v) : atI l (i : Int) = some v := atI_nat h
def DeedAt (H : Hp) (a : Addr) (d : Deed) : Prop := H a = some (.tup d.vs)
abbrev S3At (H : Hp) (a : Addr) (s : St3) : Prop := StateAt H a s.side s.top s.m
abbrev W3At (K : PySem.W.Frag) (H : Hp) (w x g d : Addr) (s : St3) (rows : List I3) : Prop := WatchAt K H w x g d s.side s.top s.m rows
def sp__law_deed (K : PySem.W.Frag) : Sp := fun vs H Q _ => ∃ (w x g d st de : Addr) (s : St3) (A : List I3) (dd : Deed), vs = [.ref w, .ref st, .ref de] ∧ W3At K H w x g d s A ∧ S3At H st s ∧ DeedAt H de dd ∧ dd.Ok s ∧
  ∀ v H' g' d' B r2 r c a b q, (g' = g ∨ H g' = none) → (d' = d ∨ H d' = none) → v = .ref r2 → H' r2 = some (.tup [.ref r, .ref q]) → NewsAt H' r c a b A B → c ≠ a → c ≠ b → a ≠ b →
    Same (hide st (hidW w x g d H)) (hid3 c a b H') → W3At K (hid3 c a b H') w x g' d' (dd.run s) B → NewRw K (hid3 c a b H') w (hidW w x g d H) → S3At (hid3 c a b H') st (dd.run s) → DeedAt (hid3 c a b H') q (dd.back s) → Q v H'
end Pt
end
section
set_option maxRecDepth 100000
set_option maxHeartbeats 4000000
namespace Pt
open PySem PySem.Spec PyProof.Rows L2
theorem st_row (s : St3) (t : Bool) : [V.str (sOf s.side), V.str (sOf s.top), V.int s.m][b2n t]? = some (.str (sOf (s.row t))) := by cases t <;> rfl
theorem st_set (s : St3) (t : Bool) (l : List Nat) : [V.str (sOf s.side), V.str (sOf s.top), V.int s.m].set (b2n t) (.str (sOf l)) = [V.str (sOf (s.set t l).side), V.str (sOf (s.set t l).top), V.int (s.set t l).m] := by cases t <;> rfl
theorem nm_row (t : Bool) : [V.str "side", V.str "top"][b2n t]? = some (.str (pname t)) := by cases t <;> rfl
theorem b2n_lt (t : Bool) : b2n t < 3 := by cases t <;> decide
abbrev sc__law_deed_N : List Str := ["_law_watch", "_law_state", "_law_deed_here", "_law_word", "_law_part", "_law_place", "_law_letter", "_law_name", "_law_row_here", "_law_elder"]
theorem sc__law_deed : FnScope sc__law_deed_N ["_law_watch", "_law_state", "_law_deed_here"] (defScope s__law_deed) := ⟨rfl, rfl, rfl, by decide +kernel, rfl, by decide +kernel, by decide +kernel⟩
theorem ok__law_deed {P : Program} {w : World} {K : PySem.W.Frag} {mg : Str → Option Value} {base : Heap} (T : Tx K mg) : Fn P w K mg base "_law_deed" ["_law_watch", "_law_state", "_law_deed_here"] (113) (sp__law_deed K) := by
  obtain ⟨fd, F⟩ := T.D__law_deed
  refine ⟨_, fd, T.g__law_deed, F.kp, F.bindsN (fun _ _ _ _ _ _ us hl => match us, hl with | [_, _, _], _ => rfl), F.ok sc__law_deed (fun vs H Q E h => ?_) (fun cdv A outer s H vs Q E hr h => ?_)⟩
  · (obtain ⟨w, x, g, d, st, de, s, A, dd, rfl, hW, hS, hde, hdd, k⟩ := h)
    rfl
  · (obtain ⟨w, x, g, d, st, de, s, A, dd, rfl, hW, hS, hde, hdd, k⟩ := h)
    refine ⟨_, PSs.nox (pss_cons (ps_asg (pv 2) (pg_tup (by rfl) (pgs_cons (pg_name (i := 3) sc__law_deed.nd rfl (Or.inl rfl)) (pgs_cons (pg_name (i := 4) sc__law_deed.nd rfl (Or.inl rfl)) (pgs_cons (pg_name (i := 5) sc__law_deed.nd rfl (Or.inl rfl)) (pgs_cons (pg_name (i := 6) sc__law_deed.nd rfl (Or.inl rfl)) pgs_nil))))))
      (pss_cons (ps_set (i := 7) sc__law_deed.nd rfl (Or.inl rfl) (pe_ix ix_list (pe_lst (pa_cons pe_str (pa_cons pe_str pa_nil))) (pv 4) (fun _ _ => rfl)))
      (pss_cons (ps_set (i := 8) sc__law_deed.nd rfl (Or.inl rfl) (pe_ix ix_list (pv 1) (pv 4) (fun _ _ => rfl)))
      (pss_cons (ps_if (pt_cmpR op_eq (pv 3) pe_str (nomark _)) (pss_cons (ps_asg (pe_op op_add_str (pe_op op_add_str (pe_slice sl_str (pv 8) po_none (po_some (pv 5))) (pv 6)) (pe_slice sl_str (pv 8) (po_some (pv 5)) po_none)) (pg_sub (pv 1) (pv 4) set_list))
      (pss_one (ps_ret (pe_tup (pa_cons (pe_ms (pv 0) (ok_Watch_put T) (hr.mono (by decide)) (pa_cons (pv 7) (pa_cons (pv 5) (pa_cons (pv 6) pa_nil)))) (pa_cons (pe_tup (pa_cons pe_str (pa_cons (pv 4) (pa_cons (pv 5) (pa_cons pe_str pa_nil))))) pa_nil)))))) pss_nil)
      (pss_cons (ps_if (pt_cmpR op_eq (pv 3) pe_str (nomark _)) (pss_cons (ps_asg (pe_op op_add_str (pe_slice sl_str (pv 8) po_none (po_some (pv 5))) (pe_slice sl_str (pv 8) (po_some (pe_op op_add (pv 5) pe_int)) po_none)) (pg_sub (pv 1) (pv 4) set_list))
      (pss_one (ps_ret (pe_tup (pa_cons (pe_ms (pv 0) (ok_Watch_drop T) (hr.mono (by decide)) (pa_cons (pv 7) (pa_cons (pv 5) pa_nil))) (pa_cons (pe_tup (pa_cons pe_str (pa_cons (pv 4) (pa_cons (pv 5) (pa_cons (pe_ix ix_str (pv 8) (pv 5) (fun _ _ => rfl)) pa_nil))))) pa_nil)))))) pss_nil)
      (pss_cons (ps_if (pt_cmpR op_eq (pv 3) pe_str (nomark _)) (pss_cons (ps_asg (pe_op op_add_str (pe_op op_add_str (pe_slice sl_str (pv 8) po_none (po_some (pv 5))) (pv 6)) (pe_slice sl_str (pv 8) (po_some (pe_op op_add (pv 5) pe_int)) po_none)) (pg_sub (pv 1) (pv 4) set_list))
      (pss_one (ps_ret (pe_tup (pa_cons (pe_ms (pv 0) (ok_Watch_change T) (hr.mono (by decide)) (pa_cons (pv 7) (pa_cons (pv 5) (pa_cons (pv 6) pa_nil)))) (pa_cons (pe_tup (pa_cons pe_str (pa_cons (pv 4) (pa_cons (pv 5) (pa_cons (pe_ix ix_str (pv 8) (pv 5) (fun _ _ => rfl)) pa_nil))))) pa_nil)))))) pss_nil)
      (pss_cons (ps_set (i := 9) sc__law_deed.nd rfl (Or.inl rfl) (pe_ix ix_list (pv 1) pe_int (fun _ _ => rfl)))
      (pss_cons (ps_asg (pv 5) (pg_sub (pv 1) pe_int set_list))
      (pss_one (ps_ret (pe_tup (pa_cons (pe_ms (pv 0) (ok_Watch_limit T) (hr.mono (by decide)) (pa_cons (pv 5) pa_nil)) (pa_cons (pe_tup (pa_cons pe_str (pa_cons pe_int (pa_cons (pv 9) (pa_cons pe_str pa_nil))))) pa_nil))))))))))))), ?_⟩
    have hok : s.Ok := by
      obtain ⟨_, _, _, _, _, _, ps, pt, h0, h1⟩ := id hW
      exact ⟨ps, pt, h0, h1⟩
    have hS' : H st = some (.lst [.str (sOf s.side), .str (sOf s.top), .int s.m]) := hS
    -- behind the method: the two tuples
    have fin : ∀ (H2 : Hp), Same (hide st H) H2 → S3At H2 st (dd.run s) → ∀ v H3 g' d' B, (g' = g ∨ H2 g' = none) → (d' = d ∨ H2 d' = none) → NewsQ (fun Z => Same (hidW w x g d H2) Z ∧ W3At K Z w x g' d' (dd.run s) B ∧ NewRw K Z w (hidW w x g d H2)) A B v H3 →
        ∀ q, H3 q = none → ∀ r2, upd H3 q (.tup (dd.back s).vs) r2 = none → Q (.ref r2) (upd (upd H3 q (.tup (dd.back s).vs)) r2 (.tup [v, .ref q])) := by
      rintro H2 s2 hS2 v H3 g' d' B hg hd ⟨r, c, a, b, rfl, hN, n1, n2, n3, hZ, hWZ, hR⟩ q hq r2 hr2
      have w1 := (same_new hq (o := .tup (dd.back s).vs)).trans (same_new hr2 (o := .tup [.ref r, .ref q]))
      have w3 : Same (hid3 c a b H3) (hid3 c a b (upd (upd H3 q (.tup (dd.back s).vs)) r2 (.tup [.ref r, .ref q]))) := hide_same (hide_same (hide_same w1))
      have old : ∀ {y : Addr}, H2 y = none → H y = none := fun {y} e => by
        cases hy : H y with
        | none => rfl
        | some o =>
          by_cases z : y = st
          · subst z
            rw [show H2 y = _ from hS2] at e
            cases e
          · rw [s2 y o (hide_of hy z)] at e
            cases e
      have sW : Same (hide st (hidW w x g d H)) (hidW w x g d H2) := fun y o e => by
        have e1 := of_hide e
        have e2 := of_hide e1.1
        have e3 := of_hide e2.1
        have e4 := of_hide e3.1
        have e5 := of_hide e4.1
        exact hide_of (hide_of (hide_of (hide_of (s2 y o (hide_of e5.1 e1.2)) e5.2) e4.2) e3.2) e2.2
      obtain ⟨dx0, rw0, h01, ⟨dk0, rv0, fr0, hx0, ⟨dg0, k0, es0, hg0, hd0, _⟩, _⟩, _⟩ := id hW
      have lst_ne : ∀ {y : Addr} {o : HO}, H y = some o → (∀ xs, o ≠ .lst xs) → st ≠ y := fun {y o} e n z => by subst z; rw [hS'] at e; exact n _ (Option.some.inj e).symm
      have hst2 : hidW w x g d H2 st = some (.lst [.str (sOf (dd.run s).side), .str (sOf (dd.run s).top), .int (dd.run s).m]) :=
        hide_of (hide_of (hide_of (hide_of hS2 (lst_ne hg0 (fun _ z => by cases z))) (lst_ne hd0 (fun _ z => by cases z))) (lst_ne hx0 (fun _ z => by cases z))) (lst_ne h01 (fun _ z => by cases z))
      obtain ⟨dxr, xr, mr, rwr, hr1, hr2'⟩ := hR
      obtain ⟨hnr, ⟨tc, hc, _⟩, ⟨ta, ha, _⟩, ⟨tb, hb, _⟩⟩ := id hN
      refine k _ _ g' d' B r2 r c a b q (hg.imp id old) (hd.imp id old) rfl upd_same (hN.mono w1) n1 n2 n3 (sW.trans (hZ.trans w3)) (hWZ.mono w3) ⟨dxr, xr, mr, rwr, w3 _ _ hr1, ?_⟩ (w3 _ _ (hZ _ _ hst2)) ?_
      · cases hy : hidW w x g d H rwr with
        | none => rfl
        | some o =>
          by_cases z : rwr = st
          · subst z
            rw [hst2] at hr2'
            cases hr2'
          · rw [sW rwr o (hide_of hy z)] at hr2'
            cases hr2'
      · refine hide_of (hide_of (hide_of ((same_new hr2) _ _ upd_same) (ne_of_none hb hq).symm) (ne_of_none ha hq).symm) (ne_of_none hc hq).symm
    cases dd with
    | limit m' =>
      refine ⟨_, rfl, de, _, rfl, SqT.of hde, rfl, _, _, rfl, _, _, rfl, _, _, rfl, _, _, rfl, rfl, ?_⟩
      refine ⟨(by show 2 ≤ sizeLine; decide), fun p hp => ?_⟩
      have s1 := same_new hp (o := .lst [V.str "side", V.str "top"])
      refine ⟨_, rfl, p, _, _, _, rfl, rfl, SqL.of upd_same, at0, ?_⟩
      refine ⟨_, rfl, _, rfl, st, _, _, _, rfl, rfl, SqL.of (s1 _ _ hS'), at0, ?_⟩
      refine ⟨_, rfl, rfl, _, rfl, iteDF (fun z => absurd (V.str.inj z) (by decide)) ?_⟩
      refine ⟨_, rfl, rfl, _, rfl, iteDF (fun z => absurd (V.str.inj z) (by decide)) ?_⟩
      refine ⟨_, rfl, rfl, _, rfl, iteDF (fun z => absurd (V.str.inj z) (by decide)) ?_⟩
      refine ⟨_, rfl, st, _, _, _, rfl, rfl, SqL.of (s1 _ _ hS'), atI_nat (j := 2) rfl, ?_⟩
      refine ⟨_, rfl, _, rfl, st, _, _, _, rfl, rfl, s1 _ _ hS', ix_of (g := 2) (by simp), ?_⟩
      have s2 : Same (hide st H) (upd (upd H p (.lst [V.str "side", V.str "top"])) st (.lst [.str (sOf s.side), .str (sOf s.top), .int m'])) := (hide_same s1).trans same_over
      have hW2 := ((hW.mono s1).hideS _ _ (s1 _ _ hS')).mono (same_over (o := .lst [.str (sOf s.side), .str (sOf s.top), .int m']))
      obtain ⟨dx, rw, hw, _⟩ := id hW2
      refine ⟨_, rfl, w, _, dx, _, rfl, hw, rfl, rfl, _, rfl, w, x, g, d, s.side, s.top, s.m, m', A, rfl, hW2, hdd.1, hdd.2, ?_⟩
      intro v H3 g' d' B hg hd hQ
      have hQ' := hQ
      refine ⟨_, rfl, (by show 4 ≤ sizeLine; decide), fun q hq => ⟨(by show 2 ≤ sizeLine; decide), fun r2 hr2 => ?_⟩⟩
      exact fin _ s2 upd_same v H3 g' d' B hg hd hQ' q hq r2 hr2
    | put t pl c =>
      refine ⟨_, rfl, de, _, rfl, SqT.of hde, rfl, _, _, rfl, _, _, rfl, _, _, rfl, _, _, rfl, rfl, ?_⟩
      refine ⟨(by show 2 ≤ sizeLine; decide), fun p hp => ?_⟩
      have s1 := same_new hp (o := .lst [V.str "side", V.str "top"])
      have hS1 := s1 _ _ hS'
      have pr := hok.row t
      have z24 := pr.1
      refine ⟨_, rfl, p, _, _, _, rfl, rfl, SqL.of upd_same, atI_nat (nm_row t), ?_⟩
      refine ⟨_, rfl, _, rfl, st, _, _, _, rfl, rfl, SqL.of hS1, atI_nat (st_row s t), ?_⟩
      refine ⟨_, rfl, rfl, _, rfl, iteDT rfl ?_⟩
      have hp0 : pl ≤ (s.row t).length := hdd.1
      have hz0 : (s.row t).length < 24 := hdd.2.1
      refine ⟨_, rfl, _, rfl, _, rfl, _, rfl, plen pr, ?_⟩
      rw [cutS_to (by omega)]
      refine ⟨_, rfl, _, _, rfl, rfl, Nat.le_trans (m := 100000) (by rw [sOf_len, sOf_len, List.length_take]; simp; omega) (by decide), ?_⟩
      rw [sOf_app]
      refine ⟨_, rfl, _, rfl, _, rfl, _, rfl, plen pr, ?_⟩
      rw [cutS_from (by omega)]
      refine ⟨_, _, rfl, rfl, Nat.le_trans (m := 100000) (by rw [sOf_len, sOf_len]; simp; omega) (by decide), ?_⟩
      rw [sOf_app]
      refine ⟨_, rfl, _, rfl, st, _, _, _, rfl, rfl, hS1, ix_of (b2n_lt t), ?_⟩
      have ed : sOf ((s.row t).take pl ++ [c] ++ (s.row t).drop pl) = sOf (insL (s.row t) pl c) := rfl
      rw [ed, st_set s t (insL (s.row t) pl c)]
      have s2 : Same (hide st H) (upd (upd H p (.lst [V.str "side", V.str "top"])) st (.lst [.str (sOf (s.set t (insL (s.row t) pl c)).side), .str (sOf (s.set t (insL (s.row t) pl c)).top), .int (s.set t (insL (s.row t) pl c)).m])) := (hide_same s1).trans same_over
      have hW2 := ((hW.mono s1).hideS _ _ hS1).mono (same_over (o := .lst [.str (sOf (s.set t (insL (s.row t) pl c)).side), .str (sOf (s.set t (insL (s.row t) pl c)).top), .int (s.set t (insL (s.row t) pl c)).m]))
      obtain ⟨dx, rw, hw, _⟩ := id hW2
      refine ⟨_, rfl, w, _, dx, _, rfl, hw, rfl, rfl, _, rfl, _, rfl, _, rfl, w, x, g, d, s.side, s.top, s.m, A, t, pl, c, rfl, hW2, hp0, hz0, hdd.2.2, ?_⟩
      intro v H3 g' d' B hg hd hQ
      have hQ' : NewsQ (fun Z => Same (hidW w x g d (upd (upd H p (.lst [V.str "side", V.str "top"])) st (.lst [.str (sOf (s.set t (insL (s.row t) pl c)).side), .str (sOf (s.set t (insL (s.row t) pl c)).top), .int (s.set t (insL (s.row t) pl c)).m]))) Z ∧ W3At K Z w x g' d' (s.set t (insL (s.row t) pl c)) B ∧ NewRw K Z w (hidW w x g d (upd (upd H p (.lst [V.str "side", V.str "top"])) st (.lst [.str (sOf (s.set t (insL (s.row t) pl c)).side), .str (sOf (s.set t (insL (s.row t) pl c)).top), .int (s.set t (insL (s.row t) pl c)).m])))) A B v H3 := by
        cases t
        · exact hQ
        · exact hQ
      refine ⟨_, rfl, _, rfl, (by show 4 ≤ sizeLine; decide), fun q hq => ⟨(by show 2 ≤ sizeLine; decide), fun r2 hr2 => ?_⟩⟩
      exact fin _ s2 upd_same v H3 g' d' B hg hd hQ' q hq r2 hr2
    | drop t pl =>
      refine ⟨_, rfl, de, _, rfl, SqT.of hde, rfl, _, _, rfl, _, _, rfl, _, _, rfl, _, _, rfl, rfl, ?_⟩
      refine ⟨(by show 2 ≤ sizeLine; decide), fun p hp => ?_⟩
      have s1 := same_new hp (o := .lst [V.str "side", V.str "top"])
      have hS1 := s1 _ _ hS'
      have pr := hok.row t
      have z24 := pr.1
      refine ⟨_, rfl, p, _, _, _, rfl, rfl, SqL.of upd_same, atI_nat (nm_row t), ?_⟩
      refine ⟨_, rfl, _, rfl, st, _, _, _, rfl, rfl, SqL.of hS1, atI_nat (st_row s t), ?_⟩
      refine ⟨_, rfl, rfl, _, rfl, iteDF (fun z => absurd (V.str.inj z) (by decide)) ?_⟩
      refine ⟨_, rfl, rfl, _, rfl, iteDT rfl ?_⟩
      have hp0 : pl < (s.row t).length := hdd
      refine ⟨_, rfl, _, rfl, _, rfl, _, rfl, plen pr, ?_⟩
      rw [cutS_to (by omega)]
      refine ⟨_, rfl, _, rfl, _, _, rfl, rfl, _, rfl, _, rfl, plen pr, ?_⟩
      have e1 : ((pl : Int) + 1) = ((pl + 1 : Nat) : Int) := by omega
      have e2 : cutS (sOf (s.row t)) (some ((pl : Int) + 1)) none = sOf ((s.row t).drop (pl + 1)) := by rw [e1]; exact cutS_from (by omega)
      rw [e2]
      refine ⟨_, _, rfl, rfl, Nat.le_trans (m := 100000) (by rw [sOf_len, sOf_len]; simp; omega) (by decide), ?_⟩
      rw [sOf_app]
      refine ⟨_, rfl, _, rfl, st, _, _, _, rfl, rfl, hS1, ix_of (b2n_lt t), ?_⟩
      have ed : sOf ((s.row t).take pl ++ (s.row t).drop (pl + 1)) = sOf (delL (s.row t) pl) := rfl
      rw [ed, st_set s t (delL (s.row t) pl)]
      have s2 : Same (hide st H) (upd (upd H p (.lst [V.str "side", V.str "top"])) st (.lst [.str (sOf (s.set t (delL (s.row t) pl)).side), .str (sOf (s.set t (delL (s.row t) pl)).top), .int (s.set t (delL (s.row t) pl)).m])) := (hide_same s1).trans same_over
      have hW2 := ((hW.mono s1).hideS _ _ hS1).mono (same_over (o := .lst [.str (sOf (s.set t (delL (s.row t) pl)).side), .str (sOf (s.set t (delL (s.row t) pl)).top), .int (s.set t (delL (s.row t) pl)).m]))
      obtain ⟨dx, rw, hw, _⟩ := id hW2
      refine ⟨_, rfl, w, _, dx, _, rfl, hw, rfl, rfl, _, rfl, _, rfl, w, x, g, d, s.side, s.top, s.m, A, t, pl, rfl, hW2, hp0, ?_⟩
      intro v H3 g' d' B hg hd hQ
      have hQ' : NewsQ (fun Z => Same (hidW w x g d (upd (upd H p (.lst [V.str "side", V.str "top"])) st (.lst [.str (sOf (s.set t (delL (s.row t) pl)).side), .str (sOf (s.set t (delL (s.row t) pl)).top), .int (s.set t (delL (s.row t) pl)).m]))) Z ∧ W3At K Z w x g' d' (s.set t (delL (s.row t) pl)) B ∧ NewRw K Z w (hidW w x g d (upd (upd H p (.lst [V.str "side", V.str "top"])) st (.lst [.str (sOf (s.set t (delL (s.row t) pl)).side), .str (sOf (s.set t (delL (s.row t) pl)).top), .int (s.set t (delL (s.row t) pl)).m])))) A B v H3 := by
        cases t
        · exact hQ
        · exact hQ
      refine ⟨_, rfl, _, rfl, _, rfl, _, rfl, _, _, _, rfl, rfl, plen pr, at_str hp0, (by show 4 ≤ sizeLine; decide), fun q hq => ⟨(by show 2 ≤ sizeLine; decide), fun r2 hr2 => ?_⟩⟩
      exact fin _ s2 upd_same v H3 g' d' B hg hd hQ' q hq r2 hr2
    | change t pl c =>
      refine ⟨_, rfl, de, _, rfl, SqT.of hde, rfl, _, _, rfl, _, _, rfl, _, _, rfl, _, _, rfl, rfl, ?_⟩
      refine ⟨(by show 2 ≤ sizeLine; decide), fun p hp => ?_⟩
      have s1 := same_new hp (o := .lst [V.str "side", V.str "top"])
      have hS1 := s1 _ _ hS'
      have pr := hok.row t
      have z24 := pr.1
      refine ⟨_, rfl, p, _, _, _, rfl, rfl, SqL.of upd_same, atI_nat (nm_row t), ?_⟩
      refine ⟨_, rfl, _, rfl, st, _, _, _, rfl, rfl, SqL.of hS1, atI_nat (st_row s t), ?_⟩
      refine ⟨_, rfl, rfl, _, rfl, iteDF (fun z => absurd (V.str.inj z) (by decide)) ?_⟩
      refine ⟨_, rfl, rfl, _, rfl, iteDF (fun z => absurd (V.str.inj z) (by decide)) ?_⟩
      refine ⟨_, rfl, rfl, _, rfl, iteDT rfl ?_⟩
      have hp0 : pl < (s.row t).length := hdd.1
      refine ⟨_, rfl, _, rfl, _, rfl, _, rfl, plen pr, ?_⟩
      rw [cutS_to (by omega)]
      refine ⟨_, rfl, _, _, rfl, rfl, Nat.le_trans (m := 100000) (by rw [sOf_len, sOf_len, List.length_take]; simp; omega) (by decide), ?_⟩
      rw [sOf_app]
      refine ⟨_, rfl, _, rfl, _, _, rfl, rfl, _, rfl, _, rfl, plen pr, ?_⟩
      have e1 : ((pl : Int) + 1) = ((pl + 1 : Nat) : Int) := by omega
      have e2 : cutS (sOf (s.row t)) (some ((pl : Int) + 1)) none = sOf ((s.row t).drop (pl + 1)) := by rw [e1]; exact cutS_from (by omega)
      rw [e2]
      refine ⟨_, _, rfl, rfl, Nat.le_trans (m := 100000) (by rw [sOf_len, sOf_len]; simp; omega) (by decide), ?_⟩
      rw [sOf_app]
      refine ⟨_, rfl, _, rfl, st, _, _, _, rfl, rfl, hS1, ix_of (b2n_lt t), ?_⟩
      have ed : sOf ((s.row t).take pl ++ [c] ++ (s.row t).drop (pl + 1)) = sOf (setL (s.row t) pl c) := rfl
      rw [ed, st_set s t (setL (s.row t) pl c)]
      have s2 : Same (hide st H) (upd (upd H p (.lst [V.str "side", V.str "top"])) st (.lst [.str (sOf (s.set t (setL (s.row t) pl c)).side), .str (sOf (s.set t (setL (s.row t) pl c)).top), .int (s.set t (setL (s.row t) pl c)).m])) := (hide_same s1).trans same_over
      have hW2 := ((hW.mono s1).hideS _ _ hS1).mono (same_over (o := .lst [.str (sOf (s.set t (setL (s.row t) pl c)).side), .str (sOf (s.set t (setL (s.row t) pl c)).top), .int (s.set t (setL (s.row t) pl c)).m]))
      obtain ⟨dx, rw, hw, _⟩ := id hW2
      refine ⟨_, rfl, w, _, dx, _, rfl, hw, rfl, rfl, _, rfl, _, rfl, _, rfl, w, x, g, d, s.side, s.top, s.m, A, t, pl, c, rfl, hW2, hp0, hdd.2, ?_⟩
      intro v H3 g' d' B hg hd hQ
      have hQ' : NewsQ (fun Z => Same (hidW w x g d (upd (upd H p (.lst [V.str "side", V.str "top"])) st (.lst [.str (sOf (s.set t (setL (s.row t) pl c)).side), .str (sOf (s.set t (setL (s.row t) pl c)).top), .int (s.set t (setL (s.row t) pl c)).m]))) Z ∧ W3At K Z w x g' d' (s.set t (setL (s.row t) pl c)) B ∧ NewRw K Z w (hidW w x g d (upd (upd H p (.lst [V.str "side", V.str "top"])) st (.lst [.str (sOf (s.set t (setL (s.row t) pl c)).side), .str (sOf (s.set t (setL (s.row t) pl c)).top), .int (s.set t (setL (s.row t) pl c)).m])))) A B v H3 := by
        cases t
        · exact hQ
        · exact hQ
      refine ⟨_, rfl, _, rfl, _, rfl, _, rfl, _, _, _, rfl, rfl, plen pr, at_str hp0, (by show 4 ≤ sizeLine; decide), fun q hq => ⟨(by show 2 ≤ sizeLine; decide), fun r2 hr2 => ?_⟩⟩
      exact fin _ s2 upd_same v H3 g' d' B hg hd hQ' q hq r2 hr2
end Pt
end
section
set_option maxRecDepth 100000
set_option maxHeartbeats 4000000
namespace Pt
open PySem PySem.Spec PyProof.Rows L2
theorem seven {l : List Nat} (h : l.length = 7) : ∃ a b c d e f g, l = [a, b, c, d, e, f, g] := by
  match l, h with
  | [a, b, c, d, e, f, g], _ => exact ⟨a, b, c, d, e, f, g, rfl⟩
theorem nine {l : List Nat} (h : l.length = 9) : ∃ p q, l.drop 7 = [p, q] ∧ p = l.getD 7 0 ∧ q = l.getD 8 0 := by
  match l, h with
  | [_, _, _, _, _, _, _, p, q], _ => exact ⟨p, q, rfl, rfl, rfl⟩
theorem bool_of {n : Nat} (h : n < 2) : ∃ t, n = b2n t := by
  have : n = 0 ∨ n = 1 := by omega
  rcases this with rfl | rfl
  · exact ⟨false, rfl⟩
  · exact ⟨true, rfl⟩
theorem max1 (n : Nat) : (if (n : Int) > 1 then (n : Int) else 1) = ((max 1 n : Nat) : Int) := by split <;> omega
theorem at_state {t : TS} {D : Ends} {σ σ' : L2.St} {H : Hp} (e : σ = σ') (h : t D σ' H) : t D σ H := e ▸ h
def sp__law_chosen : Sp := fun vs H Q _ => ∃ (c : Int) (st le : Addr) (s : St3) (cs : List Nat), vs = [.int c, .ref st, .ref le] ∧ S3At H st s ∧ s.Ok ∧ LetsAt H le cs ∧ LetsOk cs ∧ Ret (fun v H' => ∃ q dd, v = .ref q ∧ DeedAt H' q dd ∧ dd.Ok s) H Q
abbrev sc__law_chosen_N : List Str := ["_law_cell_here", "_law_state", "_law_letters_here", "_law_menus", "_law_at", "_law_ask", "_law_word", "_law_part", "_law_kind", "_law_small", "_law_most", "_law_row_here", "_law_place", "_law_letter"]
theorem sc__law_chosen : FnScope sc__law_chosen_N ["_law_cell_here", "_law_state", "_law_letters_here"] (defScope s__law_chosen) := ⟨rfl, rfl, rfl, by decide +kernel, rfl, by decide +kernel, by decide +kernel⟩
theorem ok__law_chosen {P : Program} {w : World} {K : PySem.W.Frag} {mg : Str → Option Value} {base : Heap} (T : Tx K mg) : Fn P w K mg base "_law_chosen" ["_law_cell_here", "_law_state", "_law_letters_here"] (2) sp__law_chosen := by
  obtain ⟨fd, F⟩ := T.D__law_chosen
  refine ⟨_, fd, T.g__law_chosen, F.kp, F.bindsN (fun _ _ _ _ _ _ us hl => match us, hl with | [_, _, _], _ => rfl), F.ok sc__law_chosen (fun vs H Q E h => ?_) (fun cdv A outer s H vs Q E hr h => ?_)⟩
  · (obtain ⟨c, st, le, s, cs, rfl, hS, hok, hL, hcs, k⟩ := h)
    rfl
  · (obtain ⟨c, st, le, s, cs, rfl, hS, hok, hL, hcs, k⟩ := h)
    refine ⟨_, PSs.nox (pss_cons (ps_set (i := 3) sc__law_chosen.nd rfl (Or.inl rfl) (pe_lst (pa_cons pe_int (pa_cons pe_int (pa_cons pe_int (pa_cons pe_int (pa_cons pe_int (pa_cons pe_int (pa_cons pe_int pa_nil)))))))))
      (pss_cons (ps_asg (pe_fn (ok__law_drawn T) (hr.mono (by decide)) (pa_cons (pv 0) (pa_cons (pv 3) pa_nil))) (pg_unl rfl (pgs_cons (pg_name (i := 4) sc__law_chosen.nd rfl (Or.inl rfl)) (pgs_cons (pg_name (i := 5) sc__law_chosen.nd rfl (Or.inl rfl)) (pgs_cons (pg_name (i := 6) sc__law_chosen.nd rfl (Or.inl rfl)) (pgs_cons (pg_name (i := 7) sc__law_chosen.nd rfl (Or.inl rfl)) (pgs_cons (pg_name (i := 8) sc__law_chosen.nd rfl (Or.inl rfl)) (pgs_cons (pg_name (i := 9) sc__law_chosen.nd rfl (Or.inl rfl)) (pgs_cons (pg_name (i := 10) sc__law_chosen.nd rfl (Or.inl rfl)) pgs_nil)))))))))
      (pss_cons (ps_set (i := 11) sc__law_chosen.nd rfl (Or.inl rfl) (pe_ix ix_list (pv 1) (pv 7) (fun _ _ => rfl)))
      (pss_cons (ps_asg (pe_slice sl_list (pe_fn (ok__law_drawn T) (hr.mono (by decide)) (pa_cons (pv 0) (pa_cons (pe_op op_cat (pv 3) (pe_lst (pa_cons (pe_op op_add pe_int (pe_callB call_len_str (by rfl) T.z_len (by decide +kernel) (pa_cons (pv 11) pa_nil))) (pa_cons (pe_callB call_len_seq (by rfl) T.z_len (by decide +kernel) (pa_cons (pv 2) pa_nil)) pa_nil)))) pa_nil))) (po_some pe_int) po_none) (pg_unl rfl (pgs_cons (pg_name (i := 12) sc__law_chosen.nd rfl (Or.inl rfl)) (pgs_cons (pg_name (i := 13) sc__law_chosen.nd rfl (Or.inl rfl)) pgs_nil))))
      (pss_cons (ps_if (pt_cmpR op_eq (pv 6) pe_int (nomark _)) (pss_cons (ps_if (pt_cmpR op_gt (pv 8) pe_int (nomark _)) (pss_one (ps_set (i := 10) sc__law_chosen.nd rfl (Or.inl rfl) (pv 9))) pss_nil)
      (pss_one (ps_ret (pe_tup (pa_cons pe_str (pa_cons pe_int (pa_cons (pv 10) (pa_cons pe_str pa_nil)))))))) pss_nil)
      (pss_cons (ps_if (PW.pt (pw_or (pt_cmpR op_eq (pv 11) pe_str (nomark _)) (pw_or1 (PW.pt (pw_and (pt_cmpR op_lt (pe_callB call_len_str (by rfl) T.z_len (by decide +kernel) (pa_cons (pv 11) pa_nil)) pe_int (nomark _)) (pw_and1 (pt_cmpR op_lt (pv 6) pe_int (nomark _)))))))) (pss_one (ps_ret (pe_tup (pa_cons pe_str (pa_cons (pv 7) (pa_cons (pv 12) (pa_cons (pe_ix ix_list (pv 2) (pv 13) (fun _ _ => rfl)) pa_nil))))))) pss_nil)
      (pss_cons (ps_if (pt_cmpR op_lt (pv 6) pe_int (nomark _)) (pss_one (ps_ret (pe_tup (pa_cons pe_str (pa_cons (pv 7) (pa_cons (pe_op op_modNat (pv 12) (pe_callB (call_max2 rfl) (by rfl) T.z_max (by decide +kernel) (pa_cons pe_int (pa_cons (pe_callB call_len_str (by rfl) T.z_len (by decide +kernel) (pa_cons (pv 11) pa_nil)) pa_nil)))) (pa_cons pe_str pa_nil))))))) pss_nil)
      (pss_one (ps_ret (pe_tup (pa_cons pe_str (pa_cons (pv 7) (pa_cons (pe_op op_modNat (pv 12) (pe_callB (call_max2 rfl) (by rfl) T.z_max (by decide +kernel) (pa_cons pe_int (pa_cons (pe_callB call_len_str (by rfl) T.z_len (by decide +kernel) (pa_cons (pv 11) pa_nil)) pa_nil)))) (pa_cons (pe_ix ix_list (pv 2) (pv 13) (fun _ _ => rfl)) pa_nil)))))))))))))), ?_⟩
    have hc0 := hcs.pos
    have hc1 := hcs.few
    have hS' : H st = some (.lst [.str (sOf s.side), .str (sOf s.top), .int s.m]) := hS
    refine ⟨(by show 7 ≤ sizeLine; decide), fun p hp => ?_⟩
    have s1 := same_new hp (o := .lst (IL [2, 2, 10, 2, 4, 7, 49]))
    refine at_state (t := tSeq _ _) (σ' := [some (.int c), some (.ref st), some (.ref le), some (.ref p), none, none, none, none, none, none, none, none, none, none]) rfl ?_
    refine ⟨_, rfl, _, rfl, c, p, [2, 2, 10, 2, 4, 7, 49], rfl, upd_same, by decide, by decide, ?_⟩
    rintro v1 H1 s2 ⟨r, ds, rfl, hr, hD, hl, hd⟩
    obtain ⟨d0, d1, d2, d3, d4, d5, d6, rfl⟩ := seven hl
    have q3 : d3 < 2 := hd 3 (by decide)
    have q5 : d5 < 7 := hd 5 (by decide)
    have q6 : d6 < 49 := hd 6 (by decide)
    obtain ⟨t, rfl⟩ := bool_of q3
    have s12 := s1.trans s2
    have hp2 := s2 _ _ (upd_same (H := H) (a := p) (o := .lst (IL [2, 2, 10, 2, 4, 7, 49])))
    refine ⟨r, _, rfl, SqL.of hD, rfl, _, _, rfl, _, _, rfl, _, _, rfl, _, _, rfl, _, _, rfl, _, _, rfl, _, _, rfl, rfl, ?_⟩
    dsimp only [gName, List.set_cons_succ, List.set_cons_zero]
    have hS1 := s12 _ _ hS'
    refine ⟨_, rfl, _, rfl, st, _, _, _, rfl, rfl, SqL.of hS1, atI_nat (st_row s t), ?_⟩
    dsimp only [gName, List.set_cons_succ, List.set_cons_zero]
    have pr := hok.row t
    have z24 := pr.1
    have lcs : (cs.map fun c => V.str (sOf [c])).length = cs.length := by simp
    refine ⟨_, rfl, _, rfl, _, rfl, _, rfl, plen pr, _, _, rfl, rfl, _, rfl, le, _, rfl, .inl (SqL.of (s12 _ _ hL)), (by show 2 ≤ sizeLine; decide), fun p3 hp3 => ?_⟩
    have e3 : [(fun i j : Int => V.int (i + j)) 1 ((sOf (s.row t)).length : Nat), V.int ((cs.map fun c => V.str (sOf [c])).length : Nat)] = IL [1 + (s.row t).length, cs.length] := by
      rw [lcs, sOf_len]
      show [V.int (1 + ((s.row t).length : Int)), V.int (cs.length : Int)] = [V.int ((1 + (s.row t).length : Nat) : Int), V.int (cs.length : Int)]
      have : (1 + ((s.row t).length : Int)) = ((1 + (s.row t).length : Nat) : Int) := by omega
      rw [this]
    rw [e3]
    have w3 := same_new hp3 (o := .lst (IL [1 + (s.row t).length, cs.length]))
    refine ⟨p, p3, _, _, rfl, rfl, w3 _ _ hp2, upd_same, (by show 9 ≤ sizeLine; decide), fun p4 hp4 => ?_⟩
    rw [IL_app]
    have w4 := w3.trans (same_new hp4 (o := .lst (IL ([2, 2, 10, 2, 4, 7, 49] ++ [1 + (s.row t).length, cs.length]))))
    refine ⟨c, p4, [2, 2, 10, 2, 4, 7, 49, 1 + (s.row t).length, cs.length], rfl, upd_same, by simp, fun x hx => ?_, ?_⟩
    · simp at hx
      omega
    rintro v5 H5 s5 ⟨r5, es, rfl, hr5, hE, hel, hed⟩
    have s15 := s12.trans (w4.trans s5)
    obtain ⟨e7, e8, hdrop, h7, h8⟩ := nine hel
    have q7 : e7 < 1 + (s.row t).length := by rw [h7]; exact hed 7 (by simp)
    have q8 : e8 < cs.length := by rw [h8]; exact hed 8 (by simp)
    clear hed hd h7 h8
    have les : (IL es).length = es.length := by simp
    refine ⟨_, rfl, r5, _, rfl, SqL.of hE, fun q hq => ?_⟩
    have ecut : cutV (IL es) (some 7) none = [nV e7, nV e8] := by
      have := cut_from (xs := IL es) (k := 7) (by rw [les, hel]; simp)
      have h9 : (IL es).drop 7 = [nV e7, nV e8] := by
        have : (IL es).drop 7 = IL (es.drop 7) := by simp [IL]
        rw [this, hdrop]
        rfl
      rw [← h9]
      exact this
    rw [ecut]
    have w6 := same_new hq (o := .lst [nV e7, nV e8])
    have s6 := s15.trans w6
    refine ⟨q, _, rfl, SqL.of upd_same, rfl, _, _, rfl, _, _, rfl, rfl, ?_⟩
    dsimp only [gName, List.set_cons_succ, List.set_cons_zero]
    have hL6 := s6 _ _ hL
    clear e3 ecut hdrop les hel hl lcs
    have hlet : isLet (cs.getD e8 0) := by
      have e1 : cs.getD e8 0 = cs[e8] := by simp [List.getD, q8]
      rw [e1]
      exact hcs.lets _ (List.getElem_mem q8)
    refine ⟨_, rfl, rfl, _, rfl, iteC (fun _ => ?_) (fun _ => ?_)⟩
    · dsimp only
      refine seq_mid (fun σ' H' => ∃ (n : Nat) (o9 : Option V), n < 49 ∧ H' = upd H5 q (.lst [nV e7, nV e8]) ∧ σ' = [some (.int c), some (.ref st), some (.ref le), some (.ref p), some (nV d0), some (nV d1), some (nV d2), some (nV (b2n t)), some (nV d4), some (nV d5), some (nV n), some (.str (sOf (s.row t))), some (nV e7), some (nV e8)]) (fun N hN => ?_) ?_
      · refine ⟨_, rfl, _, _, rfl, rfl, _, rfl, iteC (fun _ => ?_) (fun _ => hN _ _ ⟨d6, none, q6, rfl, rfl⟩)⟩
        exact ⟨_, rfl, hN _ _ ⟨d5, none, by omega, rfl, rfl⟩⟩
      rintro σ7 H7 ⟨n, _, hn, rfl, rfl⟩
      refine ⟨_, rfl, (by show 4 ≤ sizeLine; decide), fun z hz => ?_⟩
      exact k _ _ (s6.trans (same_new hz)) ⟨z, .limit n, rfl, upd_same, by omega, by omega⟩
    · have hmx : V.int (if ((sOf (s.row t)).length : Int) > 1 then ((sOf (s.row t)).length : Int) else 1) = nV (max 1 (s.row t).length) := by
        rw [sOf_len, max1]; rfl
      refine ⟨_, rfl, rfl, _, rfl, ?_⟩
      by_cases e : s.row t = []
      · have e0 : (s.row t).length = 0 := by rw [e]; rfl
        refine iteDT (emp_eq.mpr e) ?_
        refine ⟨_, rfl, _, rfl, _, rfl, _, rfl, le, _, _, _, rfl, rfl, SqL.of hL6, lets_get q8, (by show 4 ≤ sizeLine; decide), fun z hz => ?_⟩
        exact k _ _ (s6.trans (same_new hz)) ⟨z, .put t e7 (cs.getD e8 0), rfl, upd_same, by omega, by omega, hlet⟩
      · refine iteDF (fun z => e (emp_eq.mp z)) ?_
        have hpos : 0 < (s.row t).length := List.length_pos_iff.mpr e
        have hmod : e7 % max 1 (s.row t).length < (s.row t).length := by
          have h1 : max 1 (s.row t).length = (s.row t).length := by omega
          rw [h1]
          exact Nat.mod_lt _ hpos
        refine ⟨_, rfl, _, rfl, plen pr, _, _, rfl, rfl, _, rfl, ?_⟩
        by_cases h24 : (s.row t).length < 24
        · refine iteDT (by rw [sOf_len]; omega) ⟨_, rfl, _, _, rfl, rfl, _, rfl, iteC (fun _ => ?_) (fun _ => ?_)⟩
          · refine ⟨_, rfl, _, rfl, _, rfl, _, rfl, le, _, _, _, rfl, rfl, SqL.of hL6, lets_get q8, (by show 4 ≤ sizeLine; decide), fun z hz => ?_⟩
            exact k _ _ (s6.trans (same_new hz)) ⟨z, .put t e7 (cs.getD e8 0), rfl, upd_same, by omega, by omega, hlet⟩
          · refine ⟨_, rfl, _, _, rfl, rfl, _, rfl, iteC (fun _ => ?_) (fun _ => ?_)⟩
            · refine ⟨_, rfl, _, rfl, _, rfl, _, rfl, plen pr, _, _, rfl, e7, max 1 (s.row t).length, rfl, hmx, by omega, (by show 4 ≤ sizeLine; decide), fun z hz => ?_⟩
              exact k _ _ (s6.trans (same_new hz)) ⟨z, .drop t (e7 % max 1 (s.row t).length), rfl, upd_same, hmod⟩
            · refine ⟨_, rfl, _, rfl, _, rfl, _, rfl, plen pr, _, _, rfl, e7, max 1 (s.row t).length, rfl, hmx, by omega, _, rfl, _, rfl, le, _, _, _, rfl, rfl, SqL.of hL6, lets_get q8, (by show 4 ≤ sizeLine; decide), fun z hz => ?_⟩
              exact k _ _ (s6.trans (same_new hz)) ⟨z, .change t (e7 % max 1 (s.row t).length) (cs.getD e8 0), rfl, upd_same, hmod, hlet⟩
        · refine iteDF (by rw [sOf_len]; omega) ?_
          refine ⟨_, rfl, _, _, rfl, rfl, _, rfl, iteC (fun _ => ?_) (fun _ => ?_)⟩
          · refine ⟨_, rfl, _, rfl, _, rfl, _, rfl, plen pr, _, _, rfl, e7, max 1 (s.row t).length, rfl, hmx, by omega, (by show 4 ≤ sizeLine; decide), fun z hz => ?_⟩
            exact k _ _ (s6.trans (same_new hz)) ⟨z, .drop t (e7 % max 1 (s.row t).length), rfl, upd_same, hmod⟩
          · refine ⟨_, rfl, _, rfl, _, rfl, _, rfl, plen pr, _, _, rfl, e7, max 1 (s.row t).length, rfl, hmx, by omega, _, rfl, _, rfl, le, _, _, _, rfl, rfl, SqL.of hL6, lets_get q8, (by show 4 ≤ sizeLine; decide), fun z hz => ?_⟩
            exact k _ _ (s6.trans (same_new hz)) ⟨z, .change t (e7 % max 1 (s.row t).length) (cs.getD e8 0), rfl, upd_same, hmod, hlet⟩
end Pt
end
section
set_option maxRecDepth 100000
set_option maxHeartbeats 4000000
namespace Pt
open PySem PySem.Spec PyProof.Rows L2
def FixI : HO → Prop
  | .lst xs => ¬ NoInt xs
  | .tup _ => True
  | .ins _ _ fs => ((fs.lookup ("levels" : Str)).isSome || (fs.lookup ("number" : Str)).isSome) = true
  | _ => False
def SameI (H H' : Hp) : Prop := ∀ x o, H x = some o → FixI o → H' x = some o
def Keep (H Z : Hp) (y : Addr) : Prop := ∀ o, H y = some o → Z y = some o
theorem same_i {H H' : Hp} (s : Same H H') : SameI H H' := fun x o e _ => s x o e
theorem SameI.trans {H1 H2 H3 : Hp} (a : SameI H1 H2) (b : SameI H2 H3) : SameI H1 H3 := fun x o e f => b x o (a x o e f) f
theorem sameI_hide {H : Hp} {g : Addr} {m : HO} (e : H g = some m) (n : ¬ FixI m) : SameI H (hide g H) := fun x o h f => hide_of h (fun z => by subst z; rw [e] at h; cases h; exact n f)
theorem keep_same {H Z : Hp} (s : Same H Z) (y : Addr) : Keep H Z y := fun o e => s y o e
theorem keep_hide {H : Hp} {u y : Addr} (n : y ≠ u) : Keep H (hide u H) y := fun o e => hide_of e n
theorem refs_free {us : List Addr} : ¬ FixI (.lst (RL us)) := fun f => f (noInt_RL us)
theorem strs_free {s : Str} {r : List V} : ¬ FixI (.lst (.str s :: r)) := fun f => f (noInt_str s r)
theorem ne_kind {H : Hp} {a b : Addr} {o o' : HO} (h : H a = some o) (h' : H b = some o') (n : o ≠ o') : a ≠ b := fun z => by subst z; rw [h] at h'; exact n (Option.some.inj h')
section
variable {K : PySem.W.Frag} {H Z : Hp}
theorem PieceAt.i (s : SameI H Z) {p : Addr} {a b t : List Nat} (h : PieceAt K H p a b t) (ha : 0 < a.length) : PieceAt K Z p a b t := by
  have hl := h.len
  obtain ⟨C, dx, l, m, i, h1, h2, h3, h4⟩ := h
  refine ⟨C, dx, l, m, i, h1, s _ _ h2 rfl, s _ _ h3 (fun z => ?_), h4⟩
  cases t with
  | nil => have := hl.2.2; simp at this; omega
  | cons y r => exact z _ _ rfl
theorem LimbAt.i (s : SameI H Z) {top sd : List Nat} {a : Addr} {h : Nat} (q : LimbAt K H top a sd h) : LimbAt K Z top a sd h := by
  induction q with
  | leaf h hp => exact .leaf (s _ _ h rfl) (hp.i s (by simp))
  | knot h hp hu hl i1 i2 => exact .knot (s _ _ h rfl) (hp.i s (by have := hu.pos; simp; omega)) i1 i2
theorem KeptAt.i (s : SameI H Z) {x g d : Addr} {top side : List Nat} (h : KeptAt K H x g d top side) (kx : Keep H Z x) (kg : Keep H Z g) (kd : Keep H Z d) : KeptAt K Z x g d top side := by
  obtain ⟨dk, rv, fr, h1, ⟨dg, k, es, g1, g2, g3, g4⟩, h3⟩ := h
  refine ⟨dk, rv, fr, kx _ h1, ⟨dg, k, es, kg _ g1, kd _ g2, ⟨g3.1, fun q hq => ⟨(g3.2 q hq).1, ?_⟩⟩, g4⟩, h3.imp id fun ⟨r, h, e1, q⟩ => ⟨r, h, e1, q.i s⟩⟩
  obtain ⟨t, ht⟩ := (g3.2 q hq).2
  exact ⟨t, ht.i s (by simp)⟩
theorem T3.i (s : SameI H Z) {a : Addr} {ps : List I3} (h : T3 H a ps) (k : Keep H Z a) : T3 Z a ps := by
  obtain ⟨ts, h1, h2⟩ := h
  exact ⟨ts, k _ h1, h2.1, fun i hi => s _ _ (h2.2 i hi) trivial⟩
theorem WatchAt.i (s : SameI H Z) {w x g d : Addr} {side top : List Nat} {m : Int} {rows : List I3} (h : WatchAt K H w x g d side top m rows) (kw : Keep H Z w) (kx : Keep H Z x) (kg : Keep H Z g) (kd : Keep H Z d)
    (kr : ∀ dx x m rw, H w = some (.ins (He.ga K "Watch") dx (wFs x m rw)) → Keep H Z rw) : WatchAt K Z w x g d side top m rows := by
  obtain ⟨dx, rw, h1, h2, h3, h4⟩ := h
  exact ⟨dx, rw, kw _ h1, h2.i s kx kg kd, h3.i s (kr _ _ _ _ h1), h4⟩
theorem NewRw.keep {Y H0 : Hp} {w : Addr} (h : NewRw K Y w H0) (k : ∀ y, H0 y = none → Keep Y Z y) {dx x : Addr} {m : Int} {rw : Addr} (e : Y w = some (.ins (He.ga K "Watch") dx (wFs x m rw))) : Keep Y Z rw := by
  obtain ⟨dx', x', m', rw', h1, h2⟩ := h
  rw [h1] at e
  injection e with e
  injection e with _ _ e
  have h3 : rw' = rw := V.ref.inj (Prod.mk.inj (List.cons.inj (List.cons.inj (List.cons.inj e).2).2).1).2
  subst h3
  exact k _ h2
theorem WatchAt.own {w x g d : Addr} {side top : List Nat} {m : Int} {rows : List I3} (h : WatchAt K H w x g d side top m rows) : (∃ C dx fs, H w = some (.ins C dx fs) ∧ ¬ FixI (.ins C dx fs)) ∧ (∃ C dx fs, H x = some (.ins C dx fs) ∧ ¬ FixI (.ins C dx fs)) ∧ (∃ C dx fs, H g = some (.ins C dx fs) ∧ ¬ FixI (.ins C dx fs)) ∧ ∃ kvs, H d = some (.dK kvs) := by
  obtain ⟨dx, rw, h1, ⟨dk, rv, fr, h2, ⟨dg, k, es, g1, g2, _⟩, _⟩, _⟩ := h
  exact ⟨⟨_, _, _, h1, Bool.false_ne_true⟩, ⟨_, _, _, h2, Bool.false_ne_true⟩, ⟨_, _, _, g1, Bool.false_ne_true⟩, _, g2⟩
end
def UndL (H : Hp) : List Addr → List Deed → Prop
  | [], [] => True
  | a :: us, d :: ds => DeedAt H a d ∧ UndL H us ds
  | _, _ => False
theorem UndL.i {H Z : Hp} (s : SameI H Z) : ∀ {us : List Addr} {ds : List Deed}, UndL H us ds → UndL Z us ds
  | [], [], _ => trivial
  | _ :: _, _ :: _, h => ⟨s _ _ h.1 trivial, UndL.i s h.2⟩
  | [], _ :: _, h => h.elim
  | _ :: _, [], h => h.elim
def deedD : Deed → PyData
  | .put t pl c => .tuple [.str "put", .int (b2n t : Nat), .int (pl : Nat), .str (sOf [c])]
  | .drop t pl => .tuple [.str "drop", .int (b2n t : Nat), .int (pl : Nat), .str ""]
  | .change t pl c => .tuple [.str "change", .int (b2n t : Nat), .int (pl : Nat), .str (sOf [c])]
  | .limit m => .tuple [.str "limit", .int 0, .int m, .str ""]
theorem deed_dp {K : PySem.W.Frag} {H : Hp} {a : Addr} {d : Deed} (h : DeedAt H a d) : Dp K H (.ref a) (deedD d) := by
  cases d <;> exact .tup (SqT.of h) (.cons (.str _) (.cons (.int _) (.cons (.int _) (.cons (.str _) .nil))))
theorem deed_lay {s : St3} {d : Deed} (h : d.Ok s) : PyData.canLay0 (deedD d) = true := by
  have one : ∀ {c : Nat}, isLet c → PyData.strOk (sOf [c]) = true := fun hc => str_ok ⟨by simp, fun x hx => by simp at hx; rw [hx]; exact hc⟩
  cases d with
  | put t pl c => simp only [deedD, PyData.canLay0, PyData.canLayAll0, one h.2.2, Bool.and_true, Bool.true_and]; decide +kernel
  | drop t pl => simp only [deedD, PyData.canLay0, PyData.canLayAll0, Bool.and_true, Bool.true_and]; decide +kernel
  | change t pl c => simp only [deedD, PyData.canLay0, PyData.canLayAll0, one h.2, Bool.and_true, Bool.true_and]; decide +kernel
  | limit m => simp only [deedD, PyData.canLay0, PyData.canLayAll0, Bool.and_true, Bool.true_and]; decide +kernel
theorem deed_depth (d : Deed) : PyData.depth (deedD d) = 1 := by
  cases d <;> simp [deedD, PyData.depth, PyData.depthAll]
theorem deeds_lay : ∀ {ds : List Deed} {s : St3}, UndoOk ds s → PyData.canLayAll0 (ds.map deedD) = true
  | [], _, _ => rfl
  | d :: ds, s, h => by
    simp only [List.map_cons, PyData.canLayAll0, deed_lay h.1, deeds_lay h.2, Bool.and_true]
theorem layAll {l : List PyData} : PyData.canLayAll0 l = true ↔ ∀ x ∈ l, PyData.canLay0 x = true := by
  induction l with
  | nil => simp [PyData.canLayAll0]
  | cons x r ih => simp [PyData.canLayAll0, ih]
theorem depthAll_le {l : List PyData} {n : Nat} (h : ∀ x ∈ l, PyData.depth x ≤ n) : PyData.depthAll l ≤ n := by
  induction l with
  | nil => simp [PyData.depthAll]
  | cons x r ih =>
    have h1 := h x (by simp)
    have h2 := ih fun y hy => h y (by simp [hy])
    simp only [PyData.depthAll]
    omega
theorem deeds_shaped {ds : List Deed} {s : St3} (h : UndoOk ds s) : SeqAt.shaped (.list (ds.reverse.map deedD)) = true := by
  have h1 : PyData.depthAll (ds.reverse.map deedD) ≤ 2 := depthAll_le fun x hx => by
    obtain ⟨d, _, rfl⟩ := List.mem_map.mp hx
    rw [deed_depth d]; decide
  have h2 : PyData.canLayAll0 (ds.reverse.map deedD) = true := layAll.mpr fun x hx => by
    obtain ⟨d, hd, rfl⟩ := List.mem_map.mp hx
    exact layAll.mp (deeds_lay h) _ (List.mem_map.mpr ⟨d, List.mem_reverse.mp hd, rfl⟩)
  show (PyData.canLay0 (.list (ds.reverse.map deedD)) && decide (PyData.depth (.list (ds.reverse.map deedD)) ≤ 64)) = true
  rw [Bool.and_eq_true]
  refine ⟨by simp only [PyData.canLay0]; exact h2, decide_eq_true ?_⟩
  simp only [PyData.depth]
  omega
theorem dpAll_app {K : PySem.W.Frag} {H : Hp} : ∀ {xs ys : List V} {ds es : List PyData}, DpAll K H xs ds → DpAll K H ys es → DpAll K H (xs ++ ys) (ds ++ es)
  | [], _, [], _, _, h => h
  | _ :: _, _, _ :: _, _, .cons h1 h2, h => .cons h1 (dpAll_app h2 h)
theorem deeds_dp {K : PySem.W.Frag} {H : Hp} : ∀ {us : List Addr} {ds : List Deed}, UndL H us ds → DpAll K H (RL us.reverse) (ds.reverse.map deedD)
  | [], [], _ => .nil
  | a :: us, d :: ds, h => by
    have e : RL (a :: us).reverse = RL us.reverse ++ [.ref a] := by simp [RL]
    have e2 : (d :: ds).reverse.map deedD = ds.reverse.map deedD ++ [deedD d] := by simp
    rw [e, e2]
    exact dpAll_app (deeds_dp h.2) (.cons (deed_dp h.1) .nil)
  | [], _ :: _, h => h.elim
  | _ :: _, [], h => h.elim
theorem eqv_some {l : List PyData} (h : l ≠ []) : PyData.eqv (.list l) (.list []) = false := by
  cases l with
  | nil => exact absurd rfl h
  | cons x r => simp [PyData.eqv, PyData.eqvAll]
theorem last_of {xs : List V} {y : V} : (xs ++ [y])[(xs ++ [y]).length - 1]? = some y := by simp
abbrev hid0 (u st w x g d : Addr) (H : Hp) : Hp := hide u (hide st (hidW w x g d H))
theorem RowsI.i {H Z : Hp} (s : SameI H Z) {a : Addr} {rs : List (List Int)} (h : RowsI H a rs) (k : Keep H Z a) : RowsI Z a rs := by
  obtain ⟨ts, h1, h2⟩ := h
  exact ⟨ts, k _ h1, h2.1, fun i hi => s _ _ (h2.2 i hi) trivial⟩
theorem hide_updN {p u : Addr} {H : Hp} {o : HO} (n : u ≠ p) : hide p (upd H u o) = upd (hide p H) u o := by
  funext y
  show (if y = p then none else (upd H u o) y) = upd (hide p H) u o y
  by_cases e' : y = u
  · subst e'
    rw [if_neg n, upd_same, upd_same]
  · rw [upd_ne e', upd_ne e']
    rfl
theorem hide_none' {p : Addr} {H : Hp} : hide p H p = none := by unfold hide; rw [if_pos rfl]
theorem step_fin {K : PySem.W.Frag} {H Hc Y : Hp} {u st w x g d g' d' : Addr} {s s' : St3} {A B : List I3} {vs : List Addr} (hW : W3At K (hide u H) w x g d s A) (hS : S3At (hide u H) st s) (s0 : Same (hide u H) Hc) (hU : Hc u = some (.lst (RL vs)))
    (s5 : Same (hide st (hidW w x g d Hc)) Y) (hg : g' = g ∨ Hc g' = none) (hd : d' = d ∨ Hc d' = none) (hW5 : W3At K Y w x g' d' s' B) (hR5 : NewRw K Y w (hidW w x g d Hc)) (hS5 : S3At Y st s') :
    Same (hid0 u st w x g d H) Y ∧ hid0 u st w x g d H g' = none ∧ hid0 u st w x g d H d' = none ∧ W3At K (hide u Y) w x g' d' s' B ∧ NewRw K Y w (hid0 u st w x g d H) ∧ S3At (hide u Y) st s' ∧ Y u = some (.lst (RL vs)) ∧ SameI (hide u H) (hide u Y) := by
  have hS0 : hide u H st = some (.lst [.str (sOf s.side), .str (sOf s.top), .int s.m]) := hS
  have hS5' : Y st = some (.lst [.str (sOf s'.side), .str (sOf s'.top), .int s'.m]) := hS5
  obtain ⟨⟨_, _, _, h1, n1⟩, ⟨_, _, _, h2, n2⟩, ⟨_, _, _, h3, n3⟩, _, h4⟩ := WatchAt.own hW
  have nu : u ≠ st ∧ u ≠ w ∧ u ≠ x ∧ u ≠ g ∧ u ≠ d := ⟨(of_hide hS0).2.symm, (of_hide h1).2.symm, (of_hide h2).2.symm, (of_hide h3).2.symm, (of_hide h4).2.symm⟩
  have hUw : hidW w x g d Hc u = some (.lst (RL vs)) := hide_of (hide_of (hide_of (hide_of hU nu.2.2.2.1) nu.2.2.2.2) nu.2.2.1) nu.2.1
  have hUY : Y u = some (.lst (RL vs)) := s5 _ _ (hide_of hUw nu.1)
  have e0 : Same (hid0 u st w x g d H) (hide st (hidW w x g d Hc)) := fun y o e => by
    have e1 := of_hide e
    have e2 := of_hide e1.1
    have e3 := of_hide e2.1
    have e4 := of_hide e3.1
    have e5 := of_hide e4.1
    have e6 := of_hide e5.1
    exact hide_of (hide_of (hide_of (hide_of (hide_of (s0 y o (hide_of e6.1 e1.2)) e6.2) e5.2) e4.2) e3.2) e2.2
  have e9 : Same (hid0 u st w x g d H) Hc := e0.trans (unhide.trans (unhide.trans (unhide.trans (unhide.trans unhide))))
  obtain ⟨⟨_, _, _, m1, k1⟩, ⟨_, _, _, m2, k2⟩, ⟨_, _, _, m3, k3⟩, _, m4⟩ := WatchAt.own hW5
  refine ⟨e0.trans s5, ?_, ?_, ?_, ?_, hide_of hS5' nu.1.symm, hUY, ?_⟩
  · rcases hg with rfl | h
    · exact hide_none (hide_none (hide_none (hide_none (hide_none hide_none'))))
    · exact e9.free h
  · rcases hd with rfl | h
    · exact hide_none (hide_none (hide_none (hide_none hide_none')))
    · exact e9.free h
  · refine WatchAt.i (sameI_hide hUY refs_free) hW5 (keep_hide nu.2.1.symm) (keep_hide nu.2.2.1.symm) (keep_hide (ne_kind m3 hUY (fun z => by cases z))) (keep_hide (ne_kind m4 hUY (fun z => by cases z))) fun dx x m rw e => ?_
    refine hR5.keep (fun y n => keep_hide ?_) e
    rintro rfl
    rw [hUw] at n
    cases n
  · obtain ⟨dx, x1, m, rw, h5, h6⟩ := hR5
    exact ⟨dx, x1, m, rw, h5, (e0.trans unhide).free h6⟩
  · intro y o e f
    have ny : ∀ {z o'}, hide u H z = some o' → ¬ FixI o' → y ≠ z := fun ez nz q => by subst q; rw [e] at ez; cases ez; exact nz f
    refine hide_of (s5 _ _ ?_) (of_hide e).2
    exact hide_of (hide_of (hide_of (hide_of (hide_of (s0 _ _ e) (ny h3 n3)) (ny h4 id)) (ny h2 n2)) (ny h1 n1)) (ny hS0 strs_free)
def sp__law_step (K : PySem.W.Frag) : Sp := fun vs H Q _ => ∃ (w x g d st u le : Addr) (c : Int) (s : St3) (A : List I3) (us : List Addr) (ds : List Deed) (cs : List Nat), vs = [.ref w, .ref st, .ref u, .int c, .ref le] ∧ W3At K (hide u H) w x g d s A ∧ S3At (hide u H) st s ∧ H u = some (.lst (RL us.reverse)) ∧
  UndL (hide u H) us ds ∧ UndoOk ds s ∧ us.length ≤ 1000 ∧ LetsAt H le cs ∧ LetsOk cs ∧
  ∀ v H' g' d' B r c a b s' us' ds', v = .ref r → NewsAt H' r c a b A B → c ≠ a → c ≠ b → a ≠ b → Same (hid0 u st w x g d H) (hid3 c a b H') → hid0 u st w x g d H g' = none → hid0 u st w x g d H d' = none → W3At K (hide u (hid3 c a b H')) w x g' d' s' B →
    NewRw K (hid3 c a b H') w (hid0 u st w x g d H) → S3At (hide u (hid3 c a b H')) st s' → hid3 c a b H' u = some (.lst (RL us'.reverse)) → UndL (hide u (hid3 c a b H')) us' ds' → UndoOk ds' s' → us'.length ≤ us.length + 1 → Q v H'
abbrev sc__law_step_N : List Str := ["_law_watch", "_law_state", "_law_undone", "_law_cell_here", "_law_letters_here", "_law_told", "_law_inverse"]
theorem sc__law_step : FnScope sc__law_step_N ["_law_watch", "_law_state", "_law_undone", "_law_cell_here", "_law_letters_here"] (defScope s__law_step) := ⟨rfl, rfl, rfl, by decide +kernel, rfl, by decide +kernel, by decide +kernel⟩
theorem ok__law_step {P : Program} {w : World} {K : PySem.W.Frag} {mg : Str → Option Value} {base : Heap} (T : Tx K mg) : Fn P w K mg base "_law_step" ["_law_watch", "_law_state", "_law_undone", "_law_cell_here", "_law_letters_here"] (114) (sp__law_step K) := by
  obtain ⟨fd, F⟩ := T.D__law_step
  refine ⟨_, fd, T.g__law_step, F.kp, F.bindsN (fun _ _ _ _ _ _ us hl => match us, hl with | [_, _, _, _, _], _ => rfl), F.ok sc__law_step (fun vs H Q E h => ?_) (fun cdv A outer s H vs Q E hr h => ?_)⟩
  · (obtain ⟨w, x, g, d, st, u, le, c, s, A, us, ds, cs, rfl, hW, hS, hU, hL, hO, hfew, hle, hcs, k⟩ := h)
    rfl
  · (obtain ⟨w, x, g, d, st, u, le, c, s, A, us, ds, cs, rfl, hW, hS, hU, hL, hO, hfew, hle, hcs, k⟩ := h)
    refine ⟨_, PSs.nox (pss_cons (ps_if (PW.pt (pw_and (pt_cmpR op_eq (pe_ix ix_list (pe_fn (ok__law_drawn T) (hr.mono (by decide)) (pa_cons (pv 3) (pa_cons (pe_lst (pa_cons pe_int (pa_cons pe_int (pa_cons pe_int pa_nil)))) pa_nil))) pe_int (fun _ _ => rfl)) pe_int (nomark _)) (pw_and1 (pt_cmpR (op_neD hr.units) (pv 2) (pe_lst pa_nil) (nomark _))))) (pss_one (ps_ret (pe_ix ix_tup (pe_fn (ok__law_deed T) (hr.mono (by decide)) (pa_cons (pv 0) (pa_cons (pv 1) (pa_cons (pe_bm0 PySem.F.plainAttrs_list PySem.F.slot_list_pop PySem.F.type_list_pop mt_pop (pv 2)) pa_nil)))) pe_int (fun _ _ => rfl)))) pss_nil)
      (pss_cons (ps_asg (pe_fn (ok__law_deed T) (hr.mono (by decide)) (pa_cons (pv 0) (pa_cons (pv 1) (pa_cons (pe_fn (ok__law_chosen T) (hr.mono (by decide)) (pa_cons (pv 3) (pa_cons (pv 1) (pa_cons (pv 4) pa_nil)))) pa_nil)))) (pg_tup (by rfl) (pgs_cons (pg_name (i := 5) sc__law_step.nd rfl (Or.inl rfl)) (pgs_cons (pg_name (i := 6) sc__law_step.nd rfl (Or.inl rfl)) pgs_nil))))
      (pss_cons (ps_expr (pe_bm PySem.F.plainAttrs_list PySem.F.slot_list_append PySem.F.type_list_append mt_append (pv 2) (pa_cons (pv 6) pa_nil)))
      (pss_one (ps_ret (pv 5)))))), ?_⟩
    have hS' : H st = some (.lst [.str (sOf s.side), .str (sOf s.top), .int s.m]) := (of_hide hS).1
    have hWH : W3At K H w x g d s A := hW.mono unhide
    have hok : s.Ok := by
      obtain ⟨_, _, _, _, _, _, ps, pt, h0, h1⟩ := id hW
      exact ⟨ps, pt, h0, h1⟩
    dsimp only
    refine seq_mid (fun σ' H' => σ' = [some (.ref w), some (.ref st), some (.ref u), some (.int c), some (.ref le), none, none] ∧ Same H H') (fun N hN => ?_) ?_
    · refine ⟨_, rfl, (by show 3 ≤ sizeLine; decide), fun p hp => ?_⟩
      have s1 := same_new hp (o := .lst (IL [2, 2, 10]))
      refine ⟨c, p, [2, 2, 10], rfl, upd_same, by decide, by decide, ?_⟩
      rintro v1 H1 s2 ⟨r, dd, rfl, hr, hD, hl, hd⟩
      have s12 := s1.trans s2
      obtain ⟨d0, d1, d2, rfl⟩ := three hl
      refine ⟨r, _, _, _, rfl, rfl, SqL.of hD, atI_nat (j := 2) rfl, rfl, _, rfl, iteC (fun _ => ?_) (fun _ => hN _ _ ⟨rfl, s12⟩)⟩
      refine ⟨_, rfl, (by show 0 ≤ sizeLine; decide), fun q hq => ?_⟩
      have w3 := same_new hq (o := .lst [])
      have s3 := s12.trans w3
      have hsh : SeqAt.shaped (.list []) = true := by decide +kernel
      refine ⟨_, _, .lst (SqL.of (s3 _ _ hU)) (deeds_dp (hL.i (same_i (unhide.trans s3)))), .lst (SqL.of upd_same) .nil, deeds_shaped hO, hsh, ?_⟩
      cases us with
      | nil =>
        cases ds with
        | cons _ _ => exact hL.elim
        | nil =>
          refine ⟨_, rfl, ?_⟩
          rw [show PyData.eqv (.list (([] : List Deed).reverse.map deedD)) (.list []) = true by decide +kernel]
          exact iteF (hN _ _ ⟨rfl, s3⟩)
      | cons e us =>
        cases ds with
        | nil => exact hL.elim
        | cons dd ds =>
          refine ⟨_, rfl, ?_⟩
          rw [eqv_some (by simp)]
          refine iteT ?_
          have eU : RL (e :: us).reverse = RL us.reverse ++ [.ref e] := by simp [RL]
          have hU3 := s3 _ _ hU
          rw [eU] at hU3
          refine ⟨_, rfl, _, rfl, _, rfl, .inl ⟨rfl, _, SqL.of hU3⟩, u, _, _, rfl, rfl, hU3, last_of, ?_⟩
          rw [List.dropLast_concat]
          have s4 : Same (hide u H) (upd (upd H1 q (.lst [])) u (.lst (RL us.reverse))) := (hide_same s3).trans same_over
          refine ⟨w, x, g, d, st, e, s, A, dd, rfl, hW.mono s4, s4 _ _ hS, s4 _ _ hL.1, hO.1, ?_⟩
          rintro v5 H5 g' d' B r2 r c1 a1 b1 q5 hg' hd' rfl hr2 hN5 n1 n2 n3 s5 hW5 hR5 hS5 hq5
          refine ⟨r2, _, _, _, rfl, rfl, SqT.of hr2, at0, ?_⟩
          obtain ⟨f1, f2, f3, f4, f5, f6, f7, f8⟩ := step_fin hW hS s4 upd_same s5 hg' hd' hW5 hR5 hS5
          exact k _ _ g' d' B r c1 a1 b1 _ us ds rfl hN5 n1 n2 n3 f1 f2 f3 f4 f5 f6 f7 (hL.2.i f8) hO.2 (by simp; omega)
    rintro σ1 H1 ⟨rfl, s1⟩
    refine ⟨_, rfl, _, rfl, _, rfl, _, rfl, _, rfl, c, st, le, s, cs, rfl, s1 _ _ hS', hok, s1 _ _ hle, hcs, ?_⟩
    rintro v2 H2 s2 ⟨e, dd, rfl, hde, hdd⟩
    have s12 := s1.trans s2
    refine ⟨w, x, g, d, st, e, s, A, dd, rfl, hWH.mono s12, s12 _ _ hS', hde, hdd, ?_⟩
    rintro v5 H5 g' d' B r2 r c1 a1 b1 q5 hg' hd' rfl hr2 hN5 n1 n2 n3 s5 hW5 hR5 hS5 hq5
    refine ⟨r2, _, rfl, SqT.of hr2, rfl, _, _, rfl, _, _, rfl, rfl, ?_⟩
    obtain ⟨f1, f2, f3, f4, f5, f6, f7, f8⟩ := step_fin hW hS (unhide.trans s12) (s12 _ _ hU) s5 hg' hd' hW5 hR5 hS5
    have f9 := of_hide f7
    have f10 := of_hide f9.1
    have f11 := of_hide f10.1
    refine ⟨_, rfl, .inl ⟨rfl, _, SqL.of f11.1⟩, _, rfl, u, _, _, rfl, rfl, f11.1, bigS _ (by simp; omega), ?_⟩
    have eU : RL us.reverse ++ [V.ref q5] = RL (q5 :: us).reverse := by simp [RL]
    rw [eU]
    have eY : hid3 c1 a1 b1 (upd H5 u (.lst (RL (q5 :: us).reverse))) = upd (hid3 c1 a1 b1 H5) u (.lst (RL (q5 :: us).reverse)) := by
      show hide c1 (hide a1 (hide b1 (upd H5 u _))) = _
      rw [hide_updN f11.2, hide_updN f10.2, hide_updN f9.2]
    have si : SameI H5 (upd H5 u (.lst (RL (q5 :: us).reverse))) := (sameI_hide f11.1 refs_free).trans (same_i same_over)
    have kp : ∀ {y : Addr}, y ≠ u → Keep H5 (upd H5 u (.lst (RL (q5 :: us).reverse))) y := fun n o e => (upd_ne n).trans e
    have hq' : hide u (hid3 c1 a1 b1 H5) q5 = some (.tup (dd.back s).vs) := hide_of hq5 (ne_kind hq5 f7 (fun z => by cases z))
    obtain ⟨hr5, hc5, ha5, hb5⟩ := hN5
    refine ⟨_, rfl, k _ _ g' d' B r c1 a1 b1 _ (q5 :: us) (dd.back s :: ds) rfl ⟨si _ _ hr5 trivial, hc5.i si (kp f9.2.symm), ha5.i si (kp f10.2.symm), hb5.i si (kp f11.2.symm)⟩ n1 n2 n3 ?_ f2 f3 ?_ ?_ ?_ ?_ ?_ (undo_push hok hdd hO) (by simp)⟩
    · rw [eY]
      exact fun y o e => (upd_ne (of_hide e).2).trans (f1 y o e)
    · rw [eY, hide_upd]
      exact f4
    · rw [eY]
      obtain ⟨dx, x1, m, rw, h5, h6⟩ := f5
      exact ⟨dx, x1, m, rw, (upd_ne (ne_kind h5 f7 (fun z => by cases z))).trans h5, h6⟩
    · rw [eY, hide_upd]
      exact f6
    · rw [eY]
      exact upd_same
    · rw [eY, hide_upd]
      exact ⟨hq', hL.i f8⟩
end Pt
end
section
set_option maxRecDepth 100000
set_option maxHeartbeats 4000000
namespace Pt
open PySem PySem.Spec PyProof.Rows L2
def hideS (S : List Addr) (H : Hp) : Hp := fun y => if y ∈ S then none else H y
theorem hideS_of {S : List Addr} {H : Hp} {y : Addr} {o : HO} (h : H y = some o) (n : ¬ y ∈ S) : hideS S H y = some o := by unfold hideS; rw [if_neg n]; exact h
theorem of_hideS {S : List Addr} {H : Hp} {y : Addr} {o : HO} (h : hideS S H y = some o) : H y = some o ∧ ¬ y ∈ S := by
  unfold hideS at h
  split at h
  · cases h
  · rename_i n
    exact ⟨h, n⟩
theorem hideS_in {S : List Addr} {H : Hp} {y : Addr} (h : y ∈ S) : hideS S H y = none := by unfold hideS; rw [if_pos h]
theorem keep_hide2 {Y Z : Hp} {u y : Addr} (k : Keep Y Z y) : Keep (hide u Y) (hide u Z) y := fun o e => hide_of (k _ (of_hide e).1) (of_hide e).2
structure Pane where
  u : Addr
  st : Addr
  w : Addr
  x : Addr
  g : Addr
  d : Addr
  du : Addr
  he : Addr
  s : St3
  A : List I3
  us : List Addr
  ds : List Deed
def Pane.foot (p : Pane) : List Addr := [p.u, p.st, p.w, p.x, p.g, p.d]
abbrev Pane.hid (p : Pane) (H : Hp) : Hp := hid0 p.u p.st p.w p.x p.g p.d H
structure PaneAt (K : PySem.W.Frag) (Z : Hp) (p : Pane) : Prop where
  W : W3At K (hide p.u Z) p.w p.x p.g p.d p.s p.A
  S : S3At (hide p.u Z) p.st p.s
  U : Z p.u = some (.lst (RL p.us.reverse))
  L : UndL (hide p.u Z) p.us p.ds
  O : UndoOk p.ds p.s
  D : T3 (hide p.u Z) p.du p.A
  E : T3 (hide p.u Z) p.he p.A
def Free (Z : Hp) (S : List Addr) : Prop := ∀ y ∈ S, Z y = none
theorem mem_foot {p : Pane} {y : Addr} : y ∈ p.foot ↔ y = p.u ∨ y = p.st ∨ y = p.w ∨ y = p.x ∨ y = p.g ∨ y = p.d := by simp [Pane.foot]
theorem PaneAt.foot {K : PySem.W.Frag} {Z : Hp} {p : Pane} (h : PaneAt K Z p) : ∀ y ∈ p.foot, ∃ o, Z y = some o ∧ ¬ FixI o := by
  obtain ⟨⟨_, _, _, h1, n1⟩, ⟨_, _, _, h2, n2⟩, ⟨_, _, _, h3, n3⟩, _, h4⟩ := WatchAt.own h.W
  intro y hy
  rcases mem_foot.mp hy with rfl | rfl | rfl | rfl | rfl | rfl
  · exact ⟨_, h.U, refs_free⟩
  · exact ⟨_, (of_hide (show hide p.u Z p.st = some (.lst [.str (sOf p.s.side), .str (sOf p.s.top), .int p.s.m]) from h.S)).1, strs_free⟩
  · exact ⟨_, (of_hide h1).1, n1⟩
  · exact ⟨_, (of_hide h2).1, n2⟩
  · exact ⟨_, (of_hide h3).1, n3⟩
  · exact ⟨_, (of_hide h4).1, id⟩
theorem hid_of0 {p : Pane} {H : Hp} {y : Addr} {o : HO} (h : H y = some o) (n : ¬ y ∈ p.foot) : p.hid H y = some o := by
  have n' := fun z => n (mem_foot.mpr z)
  refine hide_of (hide_of (hide_of (hide_of (hide_of (hide_of h ?_) ?_) ?_) ?_) ?_) ?_
  · rintro rfl; exact n' (.inr (.inr (.inr (.inr (.inl rfl)))))
  · rintro rfl; exact n' (.inr (.inr (.inr (.inr (.inr rfl)))))
  · rintro rfl; exact n' (.inr (.inr (.inr (.inl rfl))))
  · rintro rfl; exact n' (.inr (.inr (.inl rfl)))
  · rintro rfl; exact n' (.inr (.inl rfl))
  · rintro rfl; exact n' (.inl rfl)
theorem hid_free {p : Pane} {H X : Hp} (s : Same X H) (f : Free X p.foot) : Same X (p.hid H) := fun y o e => hid_of0 (s _ _ e) (fun z => by rw [f y z] at e; cases e)
theorem hid_none {p : Pane} {H : Hp} {y : Addr} (h : y ∈ p.foot) : p.hid H y = none := by
  rcases mem_foot.mp h with rfl | rfl | rfl | rfl | rfl | rfl
  · exact hide_none'
  · exact hide_none hide_none'
  · exact hide_none (hide_none hide_none')
  · exact hide_none (hide_none (hide_none hide_none'))
  · exact hide_none (hide_none (hide_none (hide_none (hide_none hide_none'))))
  · exact hide_none (hide_none (hide_none (hide_none hide_none')))
def duo (f : Bool → Addr) : List V := [.ref (f false), .ref (f true)]
theorem duo_get (f : Bool → Addr) (t : Bool) : (duo f)[b2n t]? = some (.ref (f t)) := by cases t <;> rfl
def sel {α : Type} (t : Bool) (a : α) (f : Bool → α) : Bool → α := fun t' => if t' = t then a else f t'
theorem sel_same {α : Type} (t : Bool) (a : α) (f : Bool → α) : sel t a f t = a := by simp [sel]
theorem sel_other {α : Type} (t : Bool) (a : α) (f : Bool → α) : sel t a f (!t) = f (!t) := by cases t <;> rfl
theorem duo_set (f : Bool → Addr) (t : Bool) (a : Addr) : (duo f).set (b2n t) (.ref a) = duo (sel t a f) := by cases t <;> rfl
structure LawAt (K : PySem.W.Frag) (H : Hp) (D E : Addr) (P : Bool → Pane) (Z : Bool → Hp) (C : Hp) : Prop where
  pane : ∀ t, PaneAt K (Z t) (P t)
  sub : ∀ t, Same (Z t) H
  free : ∀ t, Free (Z t) (D :: E :: (P (!t)).foot)
  subC : Same C H
  freeC : Free C [D, E]
  freeP : ∀ t, Free C (P t).foot
  atD : H D = some (.lst (duo fun t => (P t).du))
  atE : H E = some (.lst (duo fun t => (P t).he))
  ne : D ≠ E
theorem LawAt.step {K : PySem.W.Frag} {H H1 H2 H3 : Hp} {D E : Addr} {P : Bool → Pane} {Z : Bool → Hp} {C : Hp} (h : LawAt K H D E P Z C) (t : Bool) {c a b r g' d' du' he' : Addr} {s' : St3} {A B : List I3} {us' : List Addr} {ds' : List Deed}
    (hN : NewsAt H1 r c a b A B) (s1 : Same ((P t).hid H) (hid3 c a b H1)) (hg : (P t).hid H g' = none) (hd : (P t).hid H d' = none) (hW : W3At K (hide (P t).u (hid3 c a b H1)) (P t).w (P t).x g' d' s' B)
    (hR : NewRw K (hid3 c a b H1) (P t).w ((P t).hid H)) (hS : S3At (hide (P t).u (hid3 c a b H1)) (P t).st s') (hU : hid3 c a b H1 (P t).u = some (.lst (RL us'.reverse))) (hL : UndL (hide (P t).u (hid3 c a b H1)) us' ds') (hO : UndoOk ds' s')
    (s2 : Same H1 H2) (hdu : T3 H2 du' B) (ndu : H1 du' = none) (hhe : T3 H2 he' B) (nhe : H1 he' = none) (s3 : ∀ y o, H2 y = some o → y ≠ D → y ≠ E → y ≠ c → y ≠ a → y ≠ b → H3 y = some o)
    (hD3 : H3 D = some (.lst (duo (sel t du' fun t => (P t).du)))) (hE3 : H3 E = some (.lst (duo (sel t he' fun t => (P t).he)))) :
    ∃ Z', LawAt K H3 D E (sel t { P t with g := g', d := d', du := du', he := he', s := s', A := B, us := us', ds := ds' } P) Z' C := by
  have hP := h.pane t
  have hPo := h.pane (!t)
  have fo : Free (Z (!t)) (P t).foot := by
    have := h.free (!t)
    rw [Bool.not_not] at this
    exact fun y hy => this y (List.mem_cons_of_mem _ (List.mem_cons_of_mem _ hy))
  have sZo : Same (Z (!t)) ((P t).hid H) := hid_free (h.sub _) fo
  have sC : Same C ((P t).hid H) := hid_free h.subC (h.freeP t)
  -- what is hidden from the new part
  have inH : ∀ y ∈ D :: E :: (P (!t)).foot, ∃ o, (P t).hid H y = some o ∧ ¬ FixI o := by
    intro y hy
    have ny : ∀ o, H y = some o → (P t).hid H y = some o := fun o e => hid_of0 e fun z => by
      obtain ⟨o', e', _⟩ := hP.foot y z
      rw [h.free t y hy] at e'
      cases e'
    rcases List.mem_cons.mp hy with rfl | hy'
    · exact ⟨_, ny _ h.atD, refs_free (us := [(P false).du, (P true).du])⟩
    rcases List.mem_cons.mp hy' with rfl | hy'
    · exact ⟨_, ny _ h.atE, refs_free (us := [(P false).he, (P true).he])⟩
    · obtain ⟨o, e, n⟩ := hPo.foot y hy'
      exact ⟨o, ny _ (h.sub _ _ _ e), n⟩
  have s2' : Same (hid3 c a b H1) (hid3 c a b H2) := hide_same (hide_same (hide_same s2))
  have un3 : Same (hid3 c a b H2) H2 := (unhide.trans unhide).trans unhide
  have kz : ∀ y, (P t).hid H y = none → Keep (hid3 c a b H1) (hideS (D :: E :: (P (!t)).foot) (hid3 c a b H2)) y := fun y n o e => hideS_of (s2' _ _ e) fun z => by
    obtain ⟨o', e', _⟩ := inH y z
    rw [n] at e'
    cases e'
  have si : SameI (hid3 c a b H1) (hideS (D :: E :: (P (!t)).foot) (hid3 c a b H2)) := fun y o e f => hideS_of (s2' _ _ e) fun z => by
    obtain ⟨o', e', n⟩ := inH y z
    rw [s1 _ _ e'] at e
    cases e
    exact n f
  have siu : SameI (hide (P t).u (hid3 c a b H1)) (hide (P t).u (hideS (D :: E :: (P (!t)).foot) (hid3 c a b H2))) := fun y o e f => hide_of (si _ _ (of_hide e).1 f) (of_hide e).2
  have fu : (P t).hid H (P t).u = none := hid_none (mem_foot.mpr (.inl rfl))
  have fst : (P t).hid H (P t).st = none := hid_none (mem_foot.mpr (.inr (.inl rfl)))
  have fw : (P t).hid H (P t).w = none := hid_none (mem_foot.mpr (.inr (.inr (.inl rfl))))
  have fx : (P t).hid H (P t).x = none := hid_none (mem_foot.mpr (.inr (.inr (.inr (.inl rfl)))))
  obtain ⟨_, ⟨tc, hc, _⟩, ⟨ta, ha, _⟩, ⟨tb, hb, _⟩⟩ := id hN
  have in1 : ∀ {y o}, hid3 c a b H1 y = some o → H1 y = some o := fun e => (of_hide (of_hide (of_hide e).1).1).1
  -- a new list of triples
  have nt : ∀ {q : Addr}, T3 H2 q B → H1 q = none → T3 (hide (P t).u (hideS (D :: E :: (P (!t)).foot) (hid3 c a b H2))) q B := by
    intro q hq nq
    have ne1 : ∀ {y o}, H1 y = some o → q ≠ y := fun e z => by subst z; rw [nq] at e; cases e
    have nl : ∀ {y : Addr} {o o' : HO}, H1 y = some o → H2 y = some o' → ¬ FixI o → ¬ FixI o' := fun e e' n => by rw [s2 _ _ e] at e'; cases e'; exact n
    refine hq.i (fun y o e f => ?_) (fun o e => ?_)
    · refine hide_of (hideS_of (hide_of (hide_of (hide_of e ?_) ?_) ?_) ?_) ?_
      · rintro rfl; exact nl hb e refs_free f
      · rintro rfl; exact nl ha e refs_free f
      · rintro rfl; exact nl hc e refs_free f
      · intro z
        obtain ⟨o', e', n⟩ := inH y z
        exact nl (in1 (s1 _ _ e')) e n f
      · rintro rfl; exact nl (in1 hU) e refs_free f
    · refine hide_of (hideS_of (hide_of (hide_of (hide_of e (ne1 hb)) (ne1 ha)) (ne1 hc)) fun z => ?_) (ne1 (in1 hU))
      obtain ⟨o', e', n⟩ := inH q z
      exact ne1 (in1 (s1 _ _ e')) rfl
  -- out of the part into the heap behind
  have out : ∀ {X : Hp}, Same X (hid3 c a b H2) → X D = none → X E = none → Same X H3 := fun {X} sX nD nE y o e => by
    have e2 := sX _ _ e
    have e3 := of_hide e2
    have e4 := of_hide e3.1
    have e5 := of_hide e4.1
    refine s3 y o e5.1 ?_ ?_ e3.2 e4.2 e5.2
    · rintro rfl; rw [nD] at e; cases e
    · rintro rfl; rw [nE] at e; cases e
  have freeG : ∀ {X : Hp}, Same X ((P t).hid H) → Free X (P t).foot → Free X (Pane.foot { P t with g := g', d := d', du := du', he := he', s := s', A := B, us := us', ds := ds' }) := fun {X} sX f y hy => by
    rcases mem_foot.mp hy with rfl | rfl | rfl | rfl | rfl | rfl
    · exact f _ (mem_foot.mpr (.inl rfl))
    · exact f _ (mem_foot.mpr (.inr (.inl rfl)))
    · exact f _ (mem_foot.mpr (.inr (.inr (.inl rfl))))
    · exact f _ (mem_foot.mpr (.inr (.inr (.inr (.inl rfl)))))
    · exact sX.free hg
    · exact sX.free hd
  have both : ∀ {R : Bool → Prop}, R t → R (!t) → ∀ t', R t' := fun {R} h1 h2 t' => by
    cases t <;> cases t' <;> first | exact h1 | exact h2
  refine ⟨sel t (hideS (D :: E :: (P (!t)).foot) (hid3 c a b H2)) Z, both ?_ ?_, both ?_ ?_, both ?_ ?_, out (sC.trans (s1.trans s2')) (h.freeC _ (by simp)) (h.freeC _ (by simp)), h.freeC, both ?_ ?_, ?_, ?_, h.ne⟩
  · rw [sel_same, sel_same]
    exact ⟨hW.i siu (keep_hide2 (kz _ fw)) (keep_hide2 (kz _ fx)) (keep_hide2 (kz _ hg)) (keep_hide2 (kz _ hd)) (fun dx x m rw e => keep_hide2 (hR.keep kz (of_hide e).1)), keep_hide2 (kz _ fst) _ hS, kz _ fu _ hU, hL.i siu, hO, nt hdu ndu, nt hhe nhe⟩
  · rw [sel_other, sel_other]
    exact hPo
  · rw [sel_same]
    exact out (fun y o e => (of_hideS e).1) (hideS_in (by simp)) (hideS_in (by simp))
  · rw [sel_other]
    exact out (sZo.trans (s1.trans s2')) (h.free (!t) _ (by simp)) (h.free (!t) _ (by simp))
  · rw [sel_same, sel_other]
    exact fun y hy => hideS_in hy
  · rw [sel_other, Bool.not_not, sel_same]
    have f := h.free (!t)
    intro y hy
    rcases List.mem_cons.mp hy with rfl | hy
    · exact f _ (by simp)
    rcases List.mem_cons.mp hy with rfl | hy
    · exact f _ (by simp)
    · exact freeG sZo fo y hy
  · rw [sel_same]
    exact freeG sC (h.freeP t)
  · rw [sel_other]
    exact h.freeP _
  · rw [hD3]
    congr 3
    funext t'
    unfold sel
    split <;> rfl
  · rw [hE3]
    congr 3
    funext t'
    unfold sel
    split <;> rfl
end Pt
end
section
set_option maxRecDepth 100000
set_option maxHeartbeats 4000000
namespace Pt
open PySem PySem.Spec PyProof.Rows L2
theorem ne_born {H H' : Hp} {a b : Addr} (h : ∃ o, H a = some o) (s : Same H H') (n : H' b = none) : a ≠ b := by
  obtain ⟨o, e⟩ := h
  exact ne_of_none (s _ _ e) n
theorem PaneAt.part {K : PySem.W.Frag} {H : Hp} {p : Pane} (h : PaneAt K H p) {S : List Addr} (f : ∀ y ∈ S, ∃ o, H y = some o ∧ ¬ FixI o) (n : ∀ y ∈ S, ∀ z ∈ p.du :: p.he :: p.foot, y ≠ z)
    (nr : ∀ y ∈ S, ∀ dx x m rw, H p.w = some (.ins (He.ga K "Watch") dx (wFs x m rw)) → y ≠ rw) : PaneAt K (hideS S H) p := by
  have si : SameI H (hideS S H) := fun y o e q => hideS_of e fun z => by
    obtain ⟨o', e', n'⟩ := f y z
    rw [e] at e'
    cases e'
    exact n' q
  have siu : SameI (hide p.u H) (hide p.u (hideS S H)) := fun y o e q => hide_of (si _ _ (of_hide e).1 q) (of_hide e).2
  have kp : ∀ z ∈ p.du :: p.he :: p.foot, Keep H (hideS S H) z := fun z hz o e => hideS_of e fun q => n z q z hz rfl
  have kf : ∀ z ∈ p.foot, Keep H (hideS S H) z := fun z hz => kp z (List.mem_cons_of_mem _ (List.mem_cons_of_mem _ hz))
  refine ⟨h.W.i siu (keep_hide2 (kf _ (mem_foot.mpr (.inr (.inr (.inl rfl)))))) (keep_hide2 (kf _ (mem_foot.mpr (.inr (.inr (.inr (.inl rfl))))))) (keep_hide2 (kf _ (mem_foot.mpr (.inr (.inr (.inr (.inr (.inl rfl)))))))) (keep_hide2 (kf _ (mem_foot.mpr (.inr (.inr (.inr (.inr (.inr rfl)))))))) ?_,
    keep_hide2 (kf _ (mem_foot.mpr (.inr (.inl rfl)))) _ h.S, kf _ (mem_foot.mpr (.inl rfl)) _ h.U, h.L.i siu, h.O, h.D.i siu (keep_hide2 (kp _ (by simp))), h.E.i siu (keep_hide2 (kp _ (by simp)))⟩
  intro dx x m rw e
  exact keep_hide2 fun o e' => hideS_of e' fun q => nr rw q dx x m rw (of_hide e).1 rfl
def onlyS (S : List Addr) (H : Hp) : Hp := fun y => if y ∈ S then H y else none
theorem onlyS_same {S : List Addr} {H : Hp} : Same (onlyS S H) H := fun y o e => by
  unfold onlyS at e
  split at e
  · exact e
  · cases e
theorem onlyS_in {S : List Addr} {H : Hp} {y : Addr} (h : y ∈ S) : onlyS S H y = H y := by unfold onlyS; rw [if_pos h]
theorem onlyS_out {S : List Addr} {H : Hp} {y : Addr} (h : ¬ y ∈ S) : onlyS S H y = none := by unfold onlyS; rw [if_neg h]
theorem allc {α : Type} {R : α → Prop} {a : α} {l : List α} (h : R a) (t : ∀ x ∈ l, R x) : ∀ x ∈ a :: l, R x := List.forall_mem_cons.mpr ⟨h, t⟩
theorem alln {α : Type} {R : α → Prop} : ∀ x ∈ ([] : List α), R x := fun _ h => absurd h (List.not_mem_nil)
theorem LawAt.start {K : PySem.W.Frag} {H : Hp} {D E : Addr} {P : Bool → Pane} {S : List Addr} (hp : ∀ t, PaneAt K H (P t)) (aD : H D = some (.lst (duo fun t => (P t).du))) (aE : H E = some (.lst (duo fun t => (P t).he))) (ne : D ≠ E)
    (n : ∀ t, ∀ y ∈ D :: E :: (P (!t)).foot, ∀ z ∈ (P t).du :: (P t).he :: (P t).foot, y ≠ z) (nr : ∀ t, ∀ y ∈ D :: E :: (P (!t)).foot, ∀ dx x m rw, H (P t).w = some (.ins (He.ga K "Watch") dx (wFs x m rw)) → y ≠ rw)
    (nS : ∀ t, ∀ y ∈ D :: E :: (P t).foot, ∀ z ∈ S, y ≠ z) : LawAt K H D E P (fun t => hideS (D :: E :: (P (!t)).foot) H) (onlyS S H) := by
  refine ⟨fun t => (hp t).part ?_ (n t) (nr t), fun t y o e => (of_hideS e).1, fun t y hy => hideS_in hy, onlyS_same, fun y hy => onlyS_out fun z => ?_, fun t y hy => onlyS_out fun z => nS t y (List.mem_cons_of_mem _ (List.mem_cons_of_mem _ hy)) y z rfl, aD, aE, ne⟩
  · exact allc ⟨_, aD, refs_free (us := [(P false).du, (P true).du])⟩ (allc ⟨_, aE, refs_free (us := [(P false).he, (P true).he])⟩ (hp (!t)).foot)
  · rcases List.mem_cons.mp hy with rfl | hy
    · exact nS false _ (by simp) _ z rfl
    · have e := List.mem_singleton.mp hy
      subst e
      exact nS false _ (by simp) _ z rfl
def pane0 (u0 st0 w0 x0 g0 e0 du0 he0 u1 st1 w1 x1 g1 e1 du1 he1 : Addr) (s0 s1 : St3) (r0 r1 : List I3) : Bool → Pane := fun t => if t then ⟨u1, st1, w1, x1, g1, e1, du1, he1, s1, r1, [], []⟩ else ⟨u0, st0, w0, x0, g0, e0, du0, he0, s0, r0, [], []⟩
theorem law_start {K : PySem.W.Frag} {h5 h6 h7 k0 k1 h9 h11 h12 h14 h15 h16 h18 h19 h20 : Hp} {le st0 st1 ST w0 x0 g0 e0 w1 x1 g1 e1 HL du0 du1 D he0 he1 E u0 u1 UU sl : Addr} {q0 q1 : St3} {r0 r1 : List I3}
    (s0 : Same h5 h6) (s1 : Same h6 h7) (s2 : Same h7 k0) (s3 : Same k0 k1) (s4 : Same k1 h9) (s5 : Same h9 h11) (s6 : Same h11 h12) (s7 : Same h12 h14) (s8 : Same h14 h15) (s9 : Same h15 h16) (s10 : Same h16 h18) (s11 : Same h18 h19) (s12 : Same h19 h20)
    (y_le : ∃ o, h5 le = some o)
    (n_st0 : h5 st0 = none) (y_st0 : ∃ o, h6 st0 = some o)
    (n_st1 : h5 st1 = none) (y_st1 : ∃ o, h6 st1 = some o)
    (n_ST : h6 ST = none) (y_ST : ∃ o, h7 ST = some o)
    (n_w0 : h7 w0 = none) (y_w0 : ∃ o, k0 w0 = some o)
    (n_x0 : h7 x0 = none) (y_x0 : ∃ o, k0 x0 = some o)
    (n_g0 : h7 g0 = none) (y_g0 : ∃ o, k0 g0 = some o)
    (n_e0 : h7 e0 = none) (y_e0 : ∃ o, k0 e0 = some o)
    (n_w1 : k0 w1 = none) (y_w1 : ∃ o, k1 w1 = some o)
    (n_x1 : k0 x1 = none) (y_x1 : ∃ o, k1 x1 = some o)
    (n_g1 : k0 g1 = none) (y_g1 : ∃ o, k1 g1 = some o)
    (n_e1 : k0 e1 = none) (y_e1 : ∃ o, k1 e1 = some o)
    (n_HL : k1 HL = none) (y_HL : ∃ o, h9 HL = some o)
    (n_du0 : h9 du0 = none) (y_du0 : ∃ o, h11 du0 = some o)
    (n_du1 : h9 du1 = none) (y_du1 : ∃ o, h11 du1 = some o)
    (n_D : h11 D = none) (y_D : ∃ o, h12 D = some o)
    (n_he0 : h12 he0 = none) (y_he0 : ∃ o, h14 he0 = some o)
    (n_he1 : h12 he1 = none) (y_he1 : ∃ o, h14 he1 = some o)
    (n_E : h14 E = none) (y_E : ∃ o, h15 E = some o)
    (n_u0 : h16 u0 = none) (y_u0 : ∃ o, h18 u0 = some o)
    (n_u1 : h16 u1 = none) (y_u1 : ∃ o, h18 u1 = some o)
    (n_UU : h18 UU = none) (y_UU : ∃ o, h19 UU = some o)
    (n_sl : h19 sl = none) (y_sl : ∃ o, h20 sl = some o)
    (nst : st0 ≠ st1) (nu : u0 ≠ u1) (hW0 : W3At K k0 w0 x0 g0 e0 q0 r0) (hW1 : W3At K k1 w1 x1 g1 e1 q1 r1) (hS0 : S3At h6 st0 q0) (hS1 : S3At h6 st1 q1) (hU0 : h18 u0 = some (.lst [])) (hU1 : h18 u1 = some (.lst []))
    (hT0 : T3 h11 du0 r0) (hT1 : T3 h11 du1 r1) (hE0 : T3 h14 he0 r0) (hE1 : T3 h14 he1 r1) (aD : h12 D = some (.lst [.ref du0, .ref du1])) (aE : h15 E = some (.lst [.ref he0, .ref he1])) :
    LawAt K h20 D E (pane0 u0 st0 w0 x0 g0 e0 du0 he0 u1 st1 w1 x1 g1 e1 du1 he1 q0 q1 r0 r1) (fun t => hideS (D :: E :: (pane0 u0 st0 w0 x0 g0 e0 du0 he0 u1 st1 w1 x1 g1 e1 du1 he1 q0 q1 r0 r1 (!t)).foot) h20) (onlyS [le, ST, HL, UU, sl] h20) := by
  have hS0' : h6 st0 = some (.lst [.str (sOf q0.side), .str (sOf q0.top), .int q0.m]) := hS0
  have hS1' : h6 st1 = some (.lst [.str (sOf q1.side), .str (sOf q1.top), .int q1.m]) := hS1
  obtain ⟨dx0, rw0, hw0, hK0, hR0, hN0⟩ := id hW0
  obtain ⟨dx1, rw1, hw1, hK1, hR1, hN1⟩ := id hW1
  obtain ⟨tr0, hr0, _⟩ := id hR0
  obtain ⟨tr1, hr1, _⟩ := id hR1
  obtain ⟨⟨_, _, _, ow0, _⟩, ⟨_, _, _, ox0, _⟩, ⟨_, _, _, og0, _⟩, _, oe0⟩ := WatchAt.own hW0
  have kr0 : ∀ dx x m rw, h20 w0 = some (.ins (He.ga K "Watch") dx (wFs x m rw)) → rw = rw0 := fun dx x m rw e => by
    rw [(s3.trans (s4.trans (s5.trans (s6.trans (s7.trans (s8.trans (s9.trans (s10.trans (s11.trans s12))))))))) _ _ hw0] at e
    injection e with e
    injection e with _ _ e
    exact (V.ref.inj (Prod.mk.inj (List.cons.inj (List.cons.inj (List.cons.inj e).2).2).1).2).symm
  have kr1 : ∀ dx x m rw, h20 w1 = some (.ins (He.ga K "Watch") dx (wFs x m rw)) → rw = rw1 := fun dx x m rw e => by
    rw [(s4.trans (s5.trans (s6.trans (s7.trans (s8.trans (s9.trans (s10.trans (s11.trans s12)))))))) _ _ hw1] at e
    injection e with e
    injection e with _ _ e
    exact (V.ref.inj (Prod.mk.inj (List.cons.inj (List.cons.inj (List.cons.inj e).2).2).1).2).symm
  have slk : ∀ {s : Str} {r : List V} {us : List Addr}, HO.lst (.str s :: r) ≠ HO.lst (RL us) := fun z => by
    have := HO.lst.inj z
    rename_i us
    cases us with
    | nil => cases this
    | cons _ _ => exact absurd (List.cons.inj this).1 (fun z => by cases z)
  have r0_D : D ≠ rw0 := (ne_born ⟨_, hr0⟩ (s3.trans (s4.trans s5)) n_D).symm
  have r0_E : E ≠ rw0 := (ne_born ⟨_, hr0⟩ (s3.trans (s4.trans (s5.trans (s6.trans s7)))) n_E).symm
  have r0_u1 : u1 ≠ rw0 := (ne_born ⟨_, hr0⟩ (s3.trans (s4.trans (s5.trans (s6.trans (s7.trans (s8.trans s9)))))) n_u1).symm
  have r0_st1 : st1 ≠ rw0 := ne_kind ((s1.trans s2) _ _ hS1') hr0 slk
  have r0_w1 : w1 ≠ rw0 := (ne_born ⟨_, hr0⟩ (Same.refl _) n_w1).symm
  have r0_x1 : x1 ≠ rw0 := (ne_born ⟨_, hr0⟩ (Same.refl _) n_x1).symm
  have r0_g1 : g1 ≠ rw0 := (ne_born ⟨_, hr0⟩ (Same.refl _) n_g1).symm
  have r0_e1 : e1 ≠ rw0 := (ne_born ⟨_, hr0⟩ (Same.refl _) n_e1).symm
  have r1_D : D ≠ rw1 := (ne_born ⟨_, hr1⟩ (s4.trans s5) n_D).symm
  have r1_E : E ≠ rw1 := (ne_born ⟨_, hr1⟩ (s4.trans (s5.trans (s6.trans s7))) n_E).symm
  have r1_u0 : u0 ≠ rw1 := (ne_born ⟨_, hr1⟩ (s4.trans (s5.trans (s6.trans (s7.trans (s8.trans s9))))) n_u0).symm
  have r1_st0 : st0 ≠ rw1 := ne_kind ((s1.trans (s2.trans s3)) _ _ hS0') hr1 slk
  have r1_w0 : w0 ≠ rw1 := ne_kind (s3 _ _ ow0) hr1 (fun z => by cases z)
  have r1_x0 : x0 ≠ rw1 := ne_kind (s3 _ _ ox0) hr1 (fun z => by cases z)
  have r1_g0 : g0 ≠ rw1 := ne_kind (s3 _ _ og0) hr1 (fun z => by cases z)
  have r1_e0 : e0 ≠ rw1 := ne_kind (s3 _ _ oe0) hr1 (fun z => by cases z)
  have e_D_du0 : D ≠ du0 := (ne_born y_du0 (Same.refl _) n_D).symm
  have e_D_he0 : D ≠ he0 := ne_born y_D (Same.refl _) n_he0
  have e_D_u0 : D ≠ u0 := ne_born y_D (s7.trans (s8.trans s9)) n_u0
  have e_D_st0 : D ≠ st0 := (ne_born y_st0 (s1.trans (s2.trans (s3.trans (s4.trans s5)))) n_D).symm
  have e_D_w0 : D ≠ w0 := (ne_born y_w0 (s3.trans (s4.trans s5)) n_D).symm
  have e_D_x0 : D ≠ x0 := (ne_born y_x0 (s3.trans (s4.trans s5)) n_D).symm
  have e_D_g0 : D ≠ g0 := (ne_born y_g0 (s3.trans (s4.trans s5)) n_D).symm
  have e_D_e0 : D ≠ e0 := (ne_born y_e0 (s3.trans (s4.trans s5)) n_D).symm
  have e_E_du0 : E ≠ du0 := (ne_born y_du0 (s6.trans s7) n_E).symm
  have e_E_he0 : E ≠ he0 := (ne_born y_he0 (Same.refl _) n_E).symm
  have e_E_u0 : E ≠ u0 := ne_born y_E s9 n_u0
  have e_E_st0 : E ≠ st0 := (ne_born y_st0 (s1.trans (s2.trans (s3.trans (s4.trans (s5.trans (s6.trans s7)))))) n_E).symm
  have e_E_w0 : E ≠ w0 := (ne_born y_w0 (s3.trans (s4.trans (s5.trans (s6.trans s7)))) n_E).symm
  have e_E_x0 : E ≠ x0 := (ne_born y_x0 (s3.trans (s4.trans (s5.trans (s6.trans s7)))) n_E).symm
  have e_E_g0 : E ≠ g0 := (ne_born y_g0 (s3.trans (s4.trans (s5.trans (s6.trans s7)))) n_E).symm
  have e_E_e0 : E ≠ e0 := (ne_born y_e0 (s3.trans (s4.trans (s5.trans (s6.trans s7)))) n_E).symm
  have e_u1_du0 : u1 ≠ du0 := (ne_born y_du0 (s6.trans (s7.trans (s8.trans s9))) n_u1).symm
  have e_u1_he0 : u1 ≠ he0 := (ne_born y_he0 (s8.trans s9) n_u1).symm
  have e_u1_u0 : u1 ≠ u0 := nu.symm
  have e_u1_st0 : u1 ≠ st0 := (ne_born y_st0 (s1.trans (s2.trans (s3.trans (s4.trans (s5.trans (s6.trans (s7.trans (s8.trans s9)))))))) n_u1).symm
  have e_u1_w0 : u1 ≠ w0 := (ne_born y_w0 (s3.trans (s4.trans (s5.trans (s6.trans (s7.trans (s8.trans s9)))))) n_u1).symm
  have e_u1_x0 : u1 ≠ x0 := (ne_born y_x0 (s3.trans (s4.trans (s5.trans (s6.trans (s7.trans (s8.trans s9)))))) n_u1).symm
  have e_u1_g0 : u1 ≠ g0 := (ne_born y_g0 (s3.trans (s4.trans (s5.trans (s6.trans (s7.trans (s8.trans s9)))))) n_u1).symm
  have e_u1_e0 : u1 ≠ e0 := (ne_born y_e0 (s3.trans (s4.trans (s5.trans (s6.trans (s7.trans (s8.trans s9)))))) n_u1).symm
  have e_st1_du0 : st1 ≠ du0 := ne_born y_st1 (s1.trans (s2.trans (s3.trans s4))) n_du0
  have e_st1_he0 : st1 ≠ he0 := ne_born y_st1 (s1.trans (s2.trans (s3.trans (s4.trans (s5.trans s6))))) n_he0
  have e_st1_u0 : st1 ≠ u0 := ne_born y_st1 (s1.trans (s2.trans (s3.trans (s4.trans (s5.trans (s6.trans (s7.trans (s8.trans s9)))))))) n_u0
  have e_st1_st0 : st1 ≠ st0 := nst.symm
  have e_st1_w0 : st1 ≠ w0 := ne_born y_st1 s1 n_w0
  have e_st1_x0 : st1 ≠ x0 := ne_born y_st1 s1 n_x0
  have e_st1_g0 : st1 ≠ g0 := ne_born y_st1 s1 n_g0
  have e_st1_e0 : st1 ≠ e0 := ne_born y_st1 s1 n_e0
  have e_w1_du0 : w1 ≠ du0 := ne_born y_w1 s4 n_du0
  have e_w1_he0 : w1 ≠ he0 := ne_born y_w1 (s4.trans (s5.trans s6)) n_he0
  have e_w1_u0 : w1 ≠ u0 := ne_born y_w1 (s4.trans (s5.trans (s6.trans (s7.trans (s8.trans s9))))) n_u0
  have e_w1_st0 : w1 ≠ st0 := (ne_born y_st0 (s1.trans s2) n_w1).symm
  have e_w1_w0 : w1 ≠ w0 := (ne_born y_w0 (Same.refl _) n_w1).symm
  have e_w1_x0 : w1 ≠ x0 := (ne_born y_x0 (Same.refl _) n_w1).symm
  have e_w1_g0 : w1 ≠ g0 := (ne_born y_g0 (Same.refl _) n_w1).symm
  have e_w1_e0 : w1 ≠ e0 := (ne_born y_e0 (Same.refl _) n_w1).symm
  have e_x1_du0 : x1 ≠ du0 := ne_born y_x1 s4 n_du0
  have e_x1_he0 : x1 ≠ he0 := ne_born y_x1 (s4.trans (s5.trans s6)) n_he0
  have e_x1_u0 : x1 ≠ u0 := ne_born y_x1 (s4.trans (s5.trans (s6.trans (s7.trans (s8.trans s9))))) n_u0
  have e_x1_st0 : x1 ≠ st0 := (ne_born y_st0 (s1.trans s2) n_x1).symm
  have e_x1_w0 : x1 ≠ w0 := (ne_born y_w0 (Same.refl _) n_x1).symm
  have e_x1_x0 : x1 ≠ x0 := (ne_born y_x0 (Same.refl _) n_x1).symm
  have e_x1_g0 : x1 ≠ g0 := (ne_born y_g0 (Same.refl _) n_x1).symm
  have e_x1_e0 : x1 ≠ e0 := (ne_born y_e0 (Same.refl _) n_x1).symm
  have e_g1_du0 : g1 ≠ du0 := ne_born y_g1 s4 n_du0
  have e_g1_he0 : g1 ≠ he0 := ne_born y_g1 (s4.trans (s5.trans s6)) n_he0
  have e_g1_u0 : g1 ≠ u0 := ne_born y_g1 (s4.trans (s5.trans (s6.trans (s7.trans (s8.trans s9))))) n_u0
  have e_g1_st0 : g1 ≠ st0 := (ne_born y_st0 (s1.trans s2) n_g1).symm
  have e_g1_w0 : g1 ≠ w0 := (ne_born y_w0 (Same.refl _) n_g1).symm
  have e_g1_x0 : g1 ≠ x0 := (ne_born y_x0 (Same.refl _) n_g1).symm
  have e_g1_g0 : g1 ≠ g0 := (ne_born y_g0 (Same.refl _) n_g1).symm
  have e_g1_e0 : g1 ≠ e0 := (ne_born y_e0 (Same.refl _) n_g1).symm
  have e_e1_du0 : e1 ≠ du0 := ne_born y_e1 s4 n_du0
  have e_e1_he0 : e1 ≠ he0 := ne_born y_e1 (s4.trans (s5.trans s6)) n_he0
  have e_e1_u0 : e1 ≠ u0 := ne_born y_e1 (s4.trans (s5.trans (s6.trans (s7.trans (s8.trans s9))))) n_u0
  have e_e1_st0 : e1 ≠ st0 := (ne_born y_st0 (s1.trans s2) n_e1).symm
  have e_e1_w0 : e1 ≠ w0 := (ne_born y_w0 (Same.refl _) n_e1).symm
  have e_e1_x0 : e1 ≠ x0 := (ne_born y_x0 (Same.refl _) n_e1).symm
  have e_e1_g0 : e1 ≠ g0 := (ne_born y_g0 (Same.refl _) n_e1).symm
  have e_e1_e0 : e1 ≠ e0 := (ne_born y_e0 (Same.refl _) n_e1).symm
  have e_D_du1 : D ≠ du1 := (ne_born y_du1 (Same.refl _) n_D).symm
  have e_D_he1 : D ≠ he1 := ne_born y_D (Same.refl _) n_he1
  have e_D_u1 : D ≠ u1 := ne_born y_D (s7.trans (s8.trans s9)) n_u1
  have e_D_st1 : D ≠ st1 := (ne_born y_st1 (s1.trans (s2.trans (s3.trans (s4.trans s5)))) n_D).symm
  have e_D_w1 : D ≠ w1 := (ne_born y_w1 (s4.trans s5) n_D).symm
  have e_D_x1 : D ≠ x1 := (ne_born y_x1 (s4.trans s5) n_D).symm
  have e_D_g1 : D ≠ g1 := (ne_born y_g1 (s4.trans s5) n_D).symm
  have e_D_e1 : D ≠ e1 := (ne_born y_e1 (s4.trans s5) n_D).symm
  have e_E_du1 : E ≠ du1 := (ne_born y_du1 (s6.trans s7) n_E).symm
  have e_E_he1 : E ≠ he1 := (ne_born y_he1 (Same.refl _) n_E).symm
  have e_E_u1 : E ≠ u1 := ne_born y_E s9 n_u1
  have e_E_st1 : E ≠ st1 := (ne_born y_st1 (s1.trans (s2.trans (s3.trans (s4.trans (s5.trans (s6.trans s7)))))) n_E).symm
  have e_E_w1 : E ≠ w1 := (ne_born y_w1 (s4.trans (s5.trans (s6.trans s7))) n_E).symm
  have e_E_x1 : E ≠ x1 := (ne_born y_x1 (s4.trans (s5.trans (s6.trans s7))) n_E).symm
  have e_E_g1 : E ≠ g1 := (ne_born y_g1 (s4.trans (s5.trans (s6.trans s7))) n_E).symm
  have e_E_e1 : E ≠ e1 := (ne_born y_e1 (s4.trans (s5.trans (s6.trans s7))) n_E).symm
  have e_u0_du1 : u0 ≠ du1 := (ne_born y_du1 (s6.trans (s7.trans (s8.trans s9))) n_u0).symm
  have e_u0_he1 : u0 ≠ he1 := (ne_born y_he1 (s8.trans s9) n_u0).symm
  have e_u0_u1 : u0 ≠ u1 := nu
  have e_u0_st1 : u0 ≠ st1 := (ne_born y_st1 (s1.trans (s2.trans (s3.trans (s4.trans (s5.trans (s6.trans (s7.trans (s8.trans s9)))))))) n_u0).symm
  have e_u0_w1 : u0 ≠ w1 := (ne_born y_w1 (s4.trans (s5.trans (s6.trans (s7.trans (s8.trans s9))))) n_u0).symm
  have e_u0_x1 : u0 ≠ x1 := (ne_born y_x1 (s4.trans (s5.trans (s6.trans (s7.trans (s8.trans s9))))) n_u0).symm
  have e_u0_g1 : u0 ≠ g1 := (ne_born y_g1 (s4.trans (s5.trans (s6.trans (s7.trans (s8.trans s9))))) n_u0).symm
  have e_u0_e1 : u0 ≠ e1 := (ne_born y_e1 (s4.trans (s5.trans (s6.trans (s7.trans (s8.trans s9))))) n_u0).symm
  have e_st0_du1 : st0 ≠ du1 := ne_born y_st0 (s1.trans (s2.trans (s3.trans s4))) n_du1
  have e_st0_he1 : st0 ≠ he1 := ne_born y_st0 (s1.trans (s2.trans (s3.trans (s4.trans (s5.trans s6))))) n_he1
  have e_st0_u1 : st0 ≠ u1 := ne_born y_st0 (s1.trans (s2.trans (s3.trans (s4.trans (s5.trans (s6.trans (s7.trans (s8.trans s9)))))))) n_u1
  have e_st0_st1 : st0 ≠ st1 := nst
  have e_st0_w1 : st0 ≠ w1 := ne_born y_st0 (s1.trans s2) n_w1
  have e_st0_x1 : st0 ≠ x1 := ne_born y_st0 (s1.trans s2) n_x1
  have e_st0_g1 : st0 ≠ g1 := ne_born y_st0 (s1.trans s2) n_g1
  have e_st0_e1 : st0 ≠ e1 := ne_born y_st0 (s1.trans s2) n_e1
  have e_w0_du1 : w0 ≠ du1 := ne_born y_w0 (s3.trans s4) n_du1
  have e_w0_he1 : w0 ≠ he1 := ne_born y_w0 (s3.trans (s4.trans (s5.trans s6))) n_he1
  have e_w0_u1 : w0 ≠ u1 := ne_born y_w0 (s3.trans (s4.trans (s5.trans (s6.trans (s7.trans (s8.trans s9)))))) n_u1
  have e_w0_st1 : w0 ≠ st1 := (ne_born y_st1 s1 n_w0).symm
  have e_w0_w1 : w0 ≠ w1 := ne_born y_w0 (Same.refl _) n_w1
  have e_w0_x1 : w0 ≠ x1 := ne_born y_w0 (Same.refl _) n_x1
  have e_w0_g1 : w0 ≠ g1 := ne_born y_w0 (Same.refl _) n_g1
  have e_w0_e1 : w0 ≠ e1 := ne_born y_w0 (Same.refl _) n_e1
  have e_x0_du1 : x0 ≠ du1 := ne_born y_x0 (s3.trans s4) n_du1
  have e_x0_he1 : x0 ≠ he1 := ne_born y_x0 (s3.trans (s4.trans (s5.trans s6))) n_he1
  have e_x0_u1 : x0 ≠ u1 := ne_born y_x0 (s3.trans (s4.trans (s5.trans (s6.trans (s7.trans (s8.trans s9)))))) n_u1
  have e_x0_st1 : x0 ≠ st1 := (ne_born y_st1 s1 n_x0).symm
  have e_x0_w1 : x0 ≠ w1 := ne_born y_x0 (Same.refl _) n_w1
  have e_x0_x1 : x0 ≠ x1 := ne_born y_x0 (Same.refl _) n_x1
  have e_x0_g1 : x0 ≠ g1 := ne_born y_x0 (Same.refl _) n_g1
  have e_x0_e1 : x0 ≠ e1 := ne_born y_x0 (Same.refl _) n_e1
  have e_g0_du1 : g0 ≠ du1 := ne_born y_g0 (s3.trans s4) n_du1
  have e_g0_he1 : g0 ≠ he1 := ne_born y_g0 (s3.trans (s4.trans (s5.trans s6))) n_he1
  have e_g0_u1 : g0 ≠ u1 := ne_born y_g0 (s3.trans (s4.trans (s5.trans (s6.trans (s7.trans (s8.trans s9)))))) n_u1
  have e_g0_st1 : g0 ≠ st1 := (ne_born y_st1 s1 n_g0).symm
  have e_g0_w1 : g0 ≠ w1 := ne_born y_g0 (Same.refl _) n_w1
  have e_g0_x1 : g0 ≠ x1 := ne_born y_g0 (Same.refl _) n_x1
  have e_g0_g1 : g0 ≠ g1 := ne_born y_g0 (Same.refl _) n_g1
  have e_g0_e1 : g0 ≠ e1 := ne_born y_g0 (Same.refl _) n_e1
  have e_e0_du1 : e0 ≠ du1 := ne_born y_e0 (s3.trans s4) n_du1
  have e_e0_he1 : e0 ≠ he1 := ne_born y_e0 (s3.trans (s4.trans (s5.trans s6))) n_he1
  have e_e0_u1 : e0 ≠ u1 := ne_born y_e0 (s3.trans (s4.trans (s5.trans (s6.trans (s7.trans (s8.trans s9)))))) n_u1
  have e_e0_st1 : e0 ≠ st1 := (ne_born y_st1 s1 n_e0).symm
  have e_e0_w1 : e0 ≠ w1 := ne_born y_e0 (Same.refl _) n_w1
  have e_e0_x1 : e0 ≠ x1 := ne_born y_e0 (Same.refl _) n_x1
  have e_e0_g1 : e0 ≠ g1 := ne_born y_e0 (Same.refl _) n_g1
  have e_e0_e1 : e0 ≠ e1 := ne_born y_e0 (Same.refl _) n_e1
  have e_D_le : D ≠ le := (ne_born y_le (s0.trans (s1.trans (s2.trans (s3.trans (s4.trans s5))))) n_D).symm
  have e_D_ST : D ≠ ST := (ne_born y_ST (s2.trans (s3.trans (s4.trans s5))) n_D).symm
  have e_D_HL : D ≠ HL := (ne_born y_HL s5 n_D).symm
  have e_D_UU : D ≠ UU := ne_born y_D (s7.trans (s8.trans (s9.trans s10))) n_UU
  have e_D_sl : D ≠ sl := ne_born y_D (s7.trans (s8.trans (s9.trans (s10.trans s11)))) n_sl
  have e_E_le : E ≠ le := (ne_born y_le (s0.trans (s1.trans (s2.trans (s3.trans (s4.trans (s5.trans (s6.trans s7))))))) n_E).symm
  have e_E_ST : E ≠ ST := (ne_born y_ST (s2.trans (s3.trans (s4.trans (s5.trans (s6.trans s7))))) n_E).symm
  have e_E_HL : E ≠ HL := (ne_born y_HL (s5.trans (s6.trans s7)) n_E).symm
  have e_E_UU : E ≠ UU := ne_born y_E (s9.trans s10) n_UU
  have e_E_sl : E ≠ sl := ne_born y_E (s9.trans (s10.trans s11)) n_sl
  have e_u0_le : u0 ≠ le := (ne_born y_le (s0.trans (s1.trans (s2.trans (s3.trans (s4.trans (s5.trans (s6.trans (s7.trans (s8.trans s9))))))))) n_u0).symm
  have e_u0_ST : u0 ≠ ST := (ne_born y_ST (s2.trans (s3.trans (s4.trans (s5.trans (s6.trans (s7.trans (s8.trans s9))))))) n_u0).symm
  have e_u0_HL : u0 ≠ HL := (ne_born y_HL (s5.trans (s6.trans (s7.trans (s8.trans s9)))) n_u0).symm
  have e_u0_UU : u0 ≠ UU := ne_born y_u0 (Same.refl _) n_UU
  have e_u0_sl : u0 ≠ sl := ne_born y_u0 s11 n_sl
  have e_st0_le : st0 ≠ le := (ne_born y_le (Same.refl _) n_st0).symm
  have e_st0_ST : st0 ≠ ST := ne_born y_st0 (Same.refl _) n_ST
  have e_st0_HL : st0 ≠ HL := ne_born y_st0 (s1.trans (s2.trans s3)) n_HL
  have e_st0_UU : st0 ≠ UU := ne_born y_st0 (s1.trans (s2.trans (s3.trans (s4.trans (s5.trans (s6.trans (s7.trans (s8.trans (s9.trans s10))))))))) n_UU
  have e_st0_sl : st0 ≠ sl := ne_born y_st0 (s1.trans (s2.trans (s3.trans (s4.trans (s5.trans (s6.trans (s7.trans (s8.trans (s9.trans (s10.trans s11)))))))))) n_sl
  have e_w0_le : w0 ≠ le := (ne_born y_le (s0.trans s1) n_w0).symm
  have e_w0_ST : w0 ≠ ST := (ne_born y_ST (Same.refl _) n_w0).symm
  have e_w0_HL : w0 ≠ HL := ne_born y_w0 s3 n_HL
  have e_w0_UU : w0 ≠ UU := ne_born y_w0 (s3.trans (s4.trans (s5.trans (s6.trans (s7.trans (s8.trans (s9.trans s10))))))) n_UU
  have e_w0_sl : w0 ≠ sl := ne_born y_w0 (s3.trans (s4.trans (s5.trans (s6.trans (s7.trans (s8.trans (s9.trans (s10.trans s11)))))))) n_sl
  have e_x0_le : x0 ≠ le := (ne_born y_le (s0.trans s1) n_x0).symm
  have e_x0_ST : x0 ≠ ST := (ne_born y_ST (Same.refl _) n_x0).symm
  have e_x0_HL : x0 ≠ HL := ne_born y_x0 s3 n_HL
  have e_x0_UU : x0 ≠ UU := ne_born y_x0 (s3.trans (s4.trans (s5.trans (s6.trans (s7.trans (s8.trans (s9.trans s10))))))) n_UU
  have e_x0_sl : x0 ≠ sl := ne_born y_x0 (s3.trans (s4.trans (s5.trans (s6.trans (s7.trans (s8.trans (s9.trans (s10.trans s11)))))))) n_sl
  have e_g0_le : g0 ≠ le := (ne_born y_le (s0.trans s1) n_g0).symm
  have e_g0_ST : g0 ≠ ST := (ne_born y_ST (Same.refl _) n_g0).symm
  have e_g0_HL : g0 ≠ HL := ne_born y_g0 s3 n_HL
  have e_g0_UU : g0 ≠ UU := ne_born y_g0 (s3.trans (s4.trans (s5.trans (s6.trans (s7.trans (s8.trans (s9.trans s10))))))) n_UU
  have e_g0_sl : g0 ≠ sl := ne_born y_g0 (s3.trans (s4.trans (s5.trans (s6.trans (s7.trans (s8.trans (s9.trans (s10.trans s11)))))))) n_sl
  have e_e0_le : e0 ≠ le := (ne_born y_le (s0.trans s1) n_e0).symm
  have e_e0_ST : e0 ≠ ST := (ne_born y_ST (Same.refl _) n_e0).symm
  have e_e0_HL : e0 ≠ HL := ne_born y_e0 s3 n_HL
  have e_e0_UU : e0 ≠ UU := ne_born y_e0 (s3.trans (s4.trans (s5.trans (s6.trans (s7.trans (s8.trans (s9.trans s10))))))) n_UU
  have e_e0_sl : e0 ≠ sl := ne_born y_e0 (s3.trans (s4.trans (s5.trans (s6.trans (s7.trans (s8.trans (s9.trans (s10.trans s11)))))))) n_sl
  have e_u1_le : u1 ≠ le := (ne_born y_le (s0.trans (s1.trans (s2.trans (s3.trans (s4.trans (s5.trans (s6.trans (s7.trans (s8.trans s9))))))))) n_u1).symm
  have e_u1_ST : u1 ≠ ST := (ne_born y_ST (s2.trans (s3.trans (s4.trans (s5.trans (s6.trans (s7.trans (s8.trans s9))))))) n_u1).symm
  have e_u1_HL : u1 ≠ HL := (ne_born y_HL (s5.trans (s6.trans (s7.trans (s8.trans s9)))) n_u1).symm
  have e_u1_UU : u1 ≠ UU := ne_born y_u1 (Same.refl _) n_UU
  have e_u1_sl : u1 ≠ sl := ne_born y_u1 s11 n_sl
  have e_st1_le : st1 ≠ le := (ne_born y_le (Same.refl _) n_st1).symm
  have e_st1_ST : st1 ≠ ST := ne_born y_st1 (Same.refl _) n_ST
  have e_st1_HL : st1 ≠ HL := ne_born y_st1 (s1.trans (s2.trans s3)) n_HL
  have e_st1_UU : st1 ≠ UU := ne_born y_st1 (s1.trans (s2.trans (s3.trans (s4.trans (s5.trans (s6.trans (s7.trans (s8.trans (s9.trans s10))))))))) n_UU
  have e_st1_sl : st1 ≠ sl := ne_born y_st1 (s1.trans (s2.trans (s3.trans (s4.trans (s5.trans (s6.trans (s7.trans (s8.trans (s9.trans (s10.trans s11)))))))))) n_sl
  have e_w1_le : w1 ≠ le := (ne_born y_le (s0.trans (s1.trans s2)) n_w1).symm
  have e_w1_ST : w1 ≠ ST := (ne_born y_ST s2 n_w1).symm
  have e_w1_HL : w1 ≠ HL := ne_born y_w1 (Same.refl _) n_HL
  have e_w1_UU : w1 ≠ UU := ne_born y_w1 (s4.trans (s5.trans (s6.trans (s7.trans (s8.trans (s9.trans s10)))))) n_UU
  have e_w1_sl : w1 ≠ sl := ne_born y_w1 (s4.trans (s5.trans (s6.trans (s7.trans (s8.trans (s9.trans (s10.trans s11))))))) n_sl
  have e_x1_le : x1 ≠ le := (ne_born y_le (s0.trans (s1.trans s2)) n_x1).symm
  have e_x1_ST : x1 ≠ ST := (ne_born y_ST s2 n_x1).symm
  have e_x1_HL : x1 ≠ HL := ne_born y_x1 (Same.refl _) n_HL
  have e_x1_UU : x1 ≠ UU := ne_born y_x1 (s4.trans (s5.trans (s6.trans (s7.trans (s8.trans (s9.trans s10)))))) n_UU
  have e_x1_sl : x1 ≠ sl := ne_born y_x1 (s4.trans (s5.trans (s6.trans (s7.trans (s8.trans (s9.trans (s10.trans s11))))))) n_sl
  have e_g1_le : g1 ≠ le := (ne_born y_le (s0.trans (s1.trans s2)) n_g1).symm
  have e_g1_ST : g1 ≠ ST := (ne_born y_ST s2 n_g1).symm
  have e_g1_HL : g1 ≠ HL := ne_born y_g1 (Same.refl _) n_HL
  have e_g1_UU : g1 ≠ UU := ne_born y_g1 (s4.trans (s5.trans (s6.trans (s7.trans (s8.trans (s9.trans s10)))))) n_UU
  have e_g1_sl : g1 ≠ sl := ne_born y_g1 (s4.trans (s5.trans (s6.trans (s7.trans (s8.trans (s9.trans (s10.trans s11))))))) n_sl
  have e_e1_le : e1 ≠ le := (ne_born y_le (s0.trans (s1.trans s2)) n_e1).symm
  have e_e1_ST : e1 ≠ ST := (ne_born y_ST s2 n_e1).symm
  have e_e1_HL : e1 ≠ HL := ne_born y_e1 (Same.refl _) n_HL
  have e_e1_UU : e1 ≠ UU := ne_born y_e1 (s4.trans (s5.trans (s6.trans (s7.trans (s8.trans (s9.trans s10)))))) n_UU
  have e_e1_sl : e1 ≠ sl := ne_born y_e1 (s4.trans (s5.trans (s6.trans (s7.trans (s8.trans (s9.trans (s10.trans s11))))))) n_sl
  refine LawAt.start (fun t => ?_) ((s7.trans (s8.trans (s9.trans (s10.trans (s11.trans s12))))) _ _ aD) ((s9.trans (s10.trans (s11.trans s12))) _ _ aE) (ne_born y_D s7 n_E) (fun t => ?_) (fun t => ?_) (fun t => ?_)
  · cases t
    · exact ⟨WatchAt.mono (same_hide (s3.trans (s4.trans (s5.trans (s6.trans (s7.trans (s8.trans (s9.trans (s10.trans (s11.trans s12))))))))) ((s3.trans (s4.trans (s5.trans (s6.trans (s7.trans (s8.trans s9)))))).free n_u0)) hW0, same_hide (s1.trans (s2.trans (s3.trans (s4.trans (s5.trans (s6.trans (s7.trans (s8.trans (s9.trans (s10.trans (s11.trans s12))))))))))) ((s1.trans (s2.trans (s3.trans (s4.trans (s5.trans (s6.trans (s7.trans (s8.trans s9)))))))).free n_u0) _ _ hS0', (s11.trans s12) _ _ hU0, trivial, trivial, T3.mono (same_hide (s6.trans (s7.trans (s8.trans (s9.trans (s10.trans (s11.trans s12)))))) ((s6.trans (s7.trans (s8.trans s9))).free n_u0)) hT0, T3.mono (same_hide (s8.trans (s9.trans (s10.trans (s11.trans s12)))) ((s8.trans s9).free n_u0)) hE0⟩
    · exact ⟨WatchAt.mono (same_hide (s4.trans (s5.trans (s6.trans (s7.trans (s8.trans (s9.trans (s10.trans (s11.trans s12)))))))) ((s4.trans (s5.trans (s6.trans (s7.trans (s8.trans s9))))).free n_u1)) hW1, same_hide (s1.trans (s2.trans (s3.trans (s4.trans (s5.trans (s6.trans (s7.trans (s8.trans (s9.trans (s10.trans (s11.trans s12))))))))))) ((s1.trans (s2.trans (s3.trans (s4.trans (s5.trans (s6.trans (s7.trans (s8.trans s9)))))))).free n_u1) _ _ hS1', (s11.trans s12) _ _ hU1, trivial, trivial, T3.mono (same_hide (s6.trans (s7.trans (s8.trans (s9.trans (s10.trans (s11.trans s12)))))) ((s6.trans (s7.trans (s8.trans s9))).free n_u1)) hT1, T3.mono (same_hide (s8.trans (s9.trans (s10.trans (s11.trans s12)))) ((s8.trans s9).free n_u1)) hE1⟩
  · cases t
    · exact (allc (allc e_D_du0 (allc e_D_he0 (allc e_D_u0 (allc e_D_st0 (allc e_D_w0 (allc e_D_x0 (allc e_D_g0 (allc e_D_e0 alln)))))))) (allc (allc e_E_du0 (allc e_E_he0 (allc e_E_u0 (allc e_E_st0 (allc e_E_w0 (allc e_E_x0 (allc e_E_g0 (allc e_E_e0 alln)))))))) (allc (allc e_u1_du0 (allc e_u1_he0 (allc e_u1_u0 (allc e_u1_st0 (allc e_u1_w0 (allc e_u1_x0 (allc e_u1_g0 (allc e_u1_e0 alln)))))))) (allc (allc e_st1_du0 (allc e_st1_he0 (allc e_st1_u0 (allc e_st1_st0 (allc e_st1_w0 (allc e_st1_x0 (allc e_st1_g0 (allc e_st1_e0 alln)))))))) (allc (allc e_w1_du0 (allc e_w1_he0 (allc e_w1_u0 (allc e_w1_st0 (allc e_w1_w0 (allc e_w1_x0 (allc e_w1_g0 (allc e_w1_e0 alln)))))))) (allc (allc e_x1_du0 (allc e_x1_he0 (allc e_x1_u0 (allc e_x1_st0 (allc e_x1_w0 (allc e_x1_x0 (allc e_x1_g0 (allc e_x1_e0 alln)))))))) (allc (allc e_g1_du0 (allc e_g1_he0 (allc e_g1_u0 (allc e_g1_st0 (allc e_g1_w0 (allc e_g1_x0 (allc e_g1_g0 (allc e_g1_e0 alln)))))))) (allc (allc e_e1_du0 (allc e_e1_he0 (allc e_e1_u0 (allc e_e1_st0 (allc e_e1_w0 (allc e_e1_x0 (allc e_e1_g0 (allc e_e1_e0 alln)))))))) alln))))))))
    · exact (allc (allc e_D_du1 (allc e_D_he1 (allc e_D_u1 (allc e_D_st1 (allc e_D_w1 (allc e_D_x1 (allc e_D_g1 (allc e_D_e1 alln)))))))) (allc (allc e_E_du1 (allc e_E_he1 (allc e_E_u1 (allc e_E_st1 (allc e_E_w1 (allc e_E_x1 (allc e_E_g1 (allc e_E_e1 alln)))))))) (allc (allc e_u0_du1 (allc e_u0_he1 (allc e_u0_u1 (allc e_u0_st1 (allc e_u0_w1 (allc e_u0_x1 (allc e_u0_g1 (allc e_u0_e1 alln)))))))) (allc (allc e_st0_du1 (allc e_st0_he1 (allc e_st0_u1 (allc e_st0_st1 (allc e_st0_w1 (allc e_st0_x1 (allc e_st0_g1 (allc e_st0_e1 alln)))))))) (allc (allc e_w0_du1 (allc e_w0_he1 (allc e_w0_u1 (allc e_w0_st1 (allc e_w0_w1 (allc e_w0_x1 (allc e_w0_g1 (allc e_w0_e1 alln)))))))) (allc (allc e_x0_du1 (allc e_x0_he1 (allc e_x0_u1 (allc e_x0_st1 (allc e_x0_w1 (allc e_x0_x1 (allc e_x0_g1 (allc e_x0_e1 alln)))))))) (allc (allc e_g0_du1 (allc e_g0_he1 (allc e_g0_u1 (allc e_g0_st1 (allc e_g0_w1 (allc e_g0_x1 (allc e_g0_g1 (allc e_g0_e1 alln)))))))) (allc (allc e_e0_du1 (allc e_e0_he1 (allc e_e0_u1 (allc e_e0_st1 (allc e_e0_w1 (allc e_e0_x1 (allc e_e0_g1 (allc e_e0_e1 alln)))))))) alln))))))))
  · cases t
    · exact (allc (fun dx x m rw e => kr0 _ _ _ _ e ▸ r0_D) (allc (fun dx x m rw e => kr0 _ _ _ _ e ▸ r0_E) (allc (fun dx x m rw e => kr0 _ _ _ _ e ▸ r0_u1) (allc (fun dx x m rw e => kr0 _ _ _ _ e ▸ r0_st1) (allc (fun dx x m rw e => kr0 _ _ _ _ e ▸ r0_w1) (allc (fun dx x m rw e => kr0 _ _ _ _ e ▸ r0_x1) (allc (fun dx x m rw e => kr0 _ _ _ _ e ▸ r0_g1) (allc (fun dx x m rw e => kr0 _ _ _ _ e ▸ r0_e1) alln))))))))
    · exact (allc (fun dx x m rw e => kr1 _ _ _ _ e ▸ r1_D) (allc (fun dx x m rw e => kr1 _ _ _ _ e ▸ r1_E) (allc (fun dx x m rw e => kr1 _ _ _ _ e ▸ r1_u0) (allc (fun dx x m rw e => kr1 _ _ _ _ e ▸ r1_st0) (allc (fun dx x m rw e => kr1 _ _ _ _ e ▸ r1_w0) (allc (fun dx x m rw e => kr1 _ _ _ _ e ▸ r1_x0) (allc (fun dx x m rw e => kr1 _ _ _ _ e ▸ r1_g0) (allc (fun dx x m rw e => kr1 _ _ _ _ e ▸ r1_e0) alln))))))))
  · cases t
    · exact (allc (allc e_D_le (allc e_D_ST (allc e_D_HL (allc e_D_UU (allc e_D_sl alln))))) (allc (allc e_E_le (allc e_E_ST (allc e_E_HL (allc e_E_UU (allc e_E_sl alln))))) (allc (allc e_u0_le (allc e_u0_ST (allc e_u0_HL (allc e_u0_UU (allc e_u0_sl alln))))) (allc (allc e_st0_le (allc e_st0_ST (allc e_st0_HL (allc e_st0_UU (allc e_st0_sl alln))))) (allc (allc e_w0_le (allc e_w0_ST (allc e_w0_HL (allc e_w0_UU (allc e_w0_sl alln))))) (allc (allc e_x0_le (allc e_x0_ST (allc e_x0_HL (allc e_x0_UU (allc e_x0_sl alln))))) (allc (allc e_g0_le (allc e_g0_ST (allc e_g0_HL (allc e_g0_UU (allc e_g0_sl alln))))) (allc (allc e_e0_le (allc e_e0_ST (allc e_e0_HL (allc e_e0_UU (allc e_e0_sl alln))))) alln))))))))
    · exact (allc (allc e_D_le (allc e_D_ST (allc e_D_HL (allc e_D_UU (allc e_D_sl alln))))) (allc (allc e_E_le (allc e_E_ST (allc e_E_HL (allc e_E_UU (allc e_E_sl alln))))) (allc (allc e_u1_le (allc e_u1_ST (allc e_u1_HL (allc e_u1_UU (allc e_u1_sl alln))))) (allc (allc e_st1_le (allc e_st1_ST (allc e_st1_HL (allc e_st1_UU (allc e_st1_sl alln))))) (allc (allc e_w1_le (allc e_w1_ST (allc e_w1_HL (allc e_w1_UU (allc e_w1_sl alln))))) (allc (allc e_x1_le (allc e_x1_ST (allc e_x1_HL (allc e_x1_UU (allc e_x1_sl alln))))) (allc (allc e_g1_le (allc e_g1_ST (allc e_g1_HL (allc e_g1_UU (allc e_g1_sl alln))))) (allc (allc e_e1_le (allc e_e1_ST (allc e_e1_HL (allc e_e1_UU (allc e_e1_sl alln))))) alln))))))))
end Pt
end
section
set_option maxRecDepth 100000
set_option maxHeartbeats 4000000
namespace Pt
open PySem PySem.Spec PyProof.Rows L2
theorem LawAt.mono {K : PySem.W.Frag} {H H' : Hp} {D E : Addr} {P : Bool → Pane} {Z : Bool → Hp} {C : Hp} (s : Same H H') (h : LawAt K H D E P Z C) : LawAt K H' D E P Z C :=
  ⟨h.pane, fun t => (h.sub t).trans s, h.free, h.subC.trans s, h.freeC, h.freeP, s _ _ h.atD, s _ _ h.atE, h.ne⟩
theorem PaneAt.due {K : PySem.W.Frag} {Z H : Hp} {p : Pane} (h : PaneAt K Z p) (s : Same Z H) {q : Addr} {A : List I3} (hq : T3 (hide p.u Z) q A) : T3 (p.hid H) q A := by
  have hS : hide p.u Z p.st = some (.lst [.str (sOf p.s.side), .str (sOf p.s.top), .int p.s.m]) := h.S
  obtain ⟨⟨_, _, _, h1, n1⟩, ⟨_, _, _, h2, n2⟩, ⟨_, _, _, h3, n3⟩, _, h4⟩ := WatchAt.own h.W
  obtain ⟨ts, e, _⟩ := id hq
  refine hq.i (fun y o e f => hid_of0 (s _ _ (of_hide e).1) fun z => ?_) (fun o e' => hid_of0 (s _ _ (of_hide e').1) fun z => ?_)
  · obtain ⟨o', e', n⟩ := h.foot y z
    rw [(of_hide e).1] at e'
    cases e'
    exact n f
  · rcases mem_foot.mp z with rfl | rfl | rfl | rfl | rfl | rfl
    · exact (of_hide e).2 rfl
    · rw [hS] at e
      have z := HO.lst.inj (Option.some.inj e)
      cases ts with
      | nil => cases z
      | cons _ _ => exact absurd (List.cons.inj z).1 (fun z => by cases z)
    · rw [h1] at e; cases e
    · rw [h2] at e; cases e
    · rw [h3] at e; cases e
    · rw [h4] at e; cases e
section
variable {K : PySem.W.Frag} {H : Hp} {D E : Addr} {P : Bool → Pane} {Z : Bool → Hp} {C : Hp}
theorem LawAt.W (h : LawAt K H D E P Z C) (t : Bool) : W3At K (hide (P t).u H) (P t).w (P t).x (P t).g (P t).d (P t).s (P t).A := (h.pane t).W.mono (hide_same (h.sub t))
theorem LawAt.S (h : LawAt K H D E P Z C) (t : Bool) : S3At (hide (P t).u H) (P t).st (P t).s := hide_same (h.sub t) _ _ (h.pane t).S
theorem LawAt.U (h : LawAt K H D E P Z C) (t : Bool) : H (P t).u = some (.lst (RL (P t).us.reverse)) := h.sub t _ _ (h.pane t).U
theorem LawAt.L (h : LawAt K H D E P Z C) (t : Bool) : UndL (hide (P t).u H) (P t).us (P t).ds := (h.pane t).L.i (same_i (hide_same (h.sub t)))
theorem LawAt.du (h : LawAt K H D E P Z C) (t : Bool) : T3 ((P t).hid H) (P t).du (P t).A := (h.pane t).due (h.sub t) (h.pane t).D
theorem LawAt.he (h : LawAt K H D E P Z C) (t : Bool) : T3 ((P t).hid H) (P t).he (P t).A := (h.pane t).due (h.sub t) (h.pane t).E
theorem hid_un {p : Pane} : Same (p.hid H) H := unhide.trans (unhide.trans (unhide.trans (unhide.trans (unhide.trans unhide))))
theorem LawAt.lists (h : LawAt K H D E P Z C) (t : Bool) : (P t).hid H D = some (.lst (duo fun t => (P t).du)) ∧ (P t).hid H E = some (.lst (duo fun t => (P t).he)) := by
  have nf : ∀ y, Z t y = none → ¬ y ∈ (P t).foot := fun y n z => by
    obtain ⟨o, e, _⟩ := (h.pane t).foot y z
    rw [n] at e
    cases e
  exact ⟨hid_of0 h.atD (nf _ (h.free t _ (by simp))), hid_of0 h.atE (nf _ (h.free t _ (by simp)))⟩
theorem LawAt.con (h : LawAt K H D E P Z C) (t : Bool) : Same C ((P t).hid H) := hid_free h.subC (h.freeP t)
end
structure LoopAt (K : PySem.W.Frag) (le ST HL UU D E sl : Addr) (cs : List Nat) (ms : List Int) (i : Nat) (H : Hp) (P : Bool → Pane) (Z : Bool → Hp) (C : Hp) : Prop where
  at_ : LawAt K H D E P Z C
  le : C le = some (.lst (cs.map fun c => V.str (sOf [c])))
  ST : C ST = some (.lst (duo fun t => (P t).st))
  HL : C HL = some (.lst (duo fun t => (P t).w))
  UU : C UU = some (.lst (duo fun t => (P t).u))
  sl : C sl = some (.lst (ms.map V.int))
  few : ∀ t, (P t).us.length ≤ i
theorem LoopAt.mono {K : PySem.W.Frag} {le ST HL UU D E sl : Addr} {cs : List Nat} {ms : List Int} {i : Nat} {H H' : Hp} {P : Bool → Pane} {Z : Bool → Hp} {C : Hp} (s : Same H H') (h : LoopAt K le ST HL UU D E sl cs ms i H P Z C) : LoopAt K le ST HL UU D E sl cs ms i H' P Z C :=
  ⟨h.at_.mono s, h.le, h.ST, h.HL, h.UU, h.sl, h.few⟩
theorem cut_ints (ns : List Int) (n : Nat) : ∃ ms : List Int, cutV (ns.map V.int) (some 3) (some (n : Int)) = ms.map V.int ∧ ms.length ≤ n := by
  refine ⟨(ns.drop (min 3 (ns.map V.int).length)).take (min n (ns.map V.int).length - min 3 (ns.map V.int).length), ?_, ?_⟩
  · unfold cutV
    rw [show (some 3 : Option Int) = some ((3 : Nat) : Int) from rfl, HT.sIx_nat, HT.sIx_nat, List.map_take, List.map_drop]
  · rw [List.length_take]
    omega
theorem ints_at {ms : List Int} {i : Nat} {x : V} (h : (ms.map V.int)[i]? = some x) : ∃ c, x = .int c := by
  rw [List.getElem?_map] at h
  cases e : ms[i]? with
  | none => rw [e] at h; cases h
  | some c => rw [e] at h; exact ⟨c, (Option.some.inj h).symm⟩
theorem sel_fix {α : Type} (f : Pane → α) (P : Bool → Pane) (t : Bool) (p : Pane) (h : f p = f (P t)) : (fun t' => f (sel t p P t')) = fun t' => f (P t') := by
  funext t'
  unfold sel
  split
  · rename_i e
    rw [h, e]
  · rfl
end Pt
end
section
set_option maxRecDepth 100000
set_option maxHeartbeats 4000000
namespace Pt
open PySem PySem.Spec PyProof.Rows L2
theorem four {l : List Nat} (h : l.length = 4) : ∃ a b c d, l = [a, b, c, d] := by
  match l, h with
  | [a, b, c, d], _ => exact ⟨a, b, c, d, rfl⟩
theorem made_same {H H' : Hp} {x dx : Addr} {o o' : HO} (h : H x = none) (h' : H dx = none) (s : Same (hide x (upd (upd H dx o) x o')) H') : Same H H' := fun y u e => s y u (hide_of (by rw [upd_ne (ne_of_none e h), upd_ne (ne_of_none e h')]; exact e) (ne_of_none e h))
theorem made_free {H : Hp} {x dx y : Addr} {o o' : HO} (h : (upd (upd H dx o) x o') y = none) : H y = none := by
  by_cases e : y = x
  · subst e; rw [upd_same] at h; cases h
  · rw [upd_ne e] at h
    by_cases e' : y = dx
    · subst e'; rw [upd_same] at h; cases h
    · rw [upd_ne e'] at h
      exact h
theorem seq_set {v : V} {i : Nat} {t : TS} {D : Ends} {σ : L2.St} {H : Hp} (h : t D (σ.set i (some v)) H) : tSeq (tAsg (tC v) (gName i)) t D σ H := h
theorem b2n_duo (f : Bool → Addr) (t : Bool) : b2n t < (duo f).length := by cases t <;> (show _ < 2; decide)
def sp_law (K : PySem.W.Frag) : Sp := fun vs H Q _ => ∃ (a : Addr) (ns : List Int), vs = [.ref a] ∧ CellsAt K H a ns ∧ ∀ H', Q (.bl true) H'
abbrev sc_law_N : List Str := ["_law_script", "_law_letters_here", "_law_side", "_law_top", "_law_kind", "_law_small", "_law_most", "_law_draw", "_law_states", "_law_houses", "_law_due", "_law_heard", "_law_undone", "_law_last", "_law_cell_here", "_law_at", "_law_ask", "_law_number", "_law_told", "_law_newer"]
theorem sc_law : FnScope sc_law_N ["_law_script"] (defScope s_law) := ⟨rfl, rfl, rfl, by decide +kernel, rfl, by decide +kernel, by decide +kernel⟩
theorem fn_law {P : Program} {w : World} {K : PySem.W.Frag} {mg : Str → Option Value} {base : Heap} (T : Tx K mg) {f : Addr} {fd : FuncData} (F : FunD K "law" "law" (defArgs s_law) (defBody s_law) (defScope s_law) [] [] f fd) : FnOk P w K mg base CX0 (115) f fd ["_law_script"] (sp_law K) := by
  refine F.ok sc_law (fun vs H Q E h => ?_) (fun cdv A outer s H vs Q E hr h => ?_)
  · (obtain ⟨a, ns, rfl, hS, k⟩ := h)
    rfl
  · (obtain ⟨a, ns, rfl, hS, k⟩ := h)
    refine ⟨_, PSs.nox (pss_cons (ps_set (i := 1) sc_law.nd rfl (Or.inl rfl) (pe_fn (ok__law_letters T) (hr.mono (by decide)) (pa_cons (pe_fn (ok__law_cell T) (hr.mono (by decide)) (pa_cons (pv 0) (pa_cons pe_int pa_nil))) pa_nil)))
      (pss_cons (ps_set (i := 2) sc_law.nd rfl (Or.inl rfl) (pe_fn (ok__law_row T) (hr.mono (by decide)) (pa_cons (pe_fn (ok__law_cell T) (hr.mono (by decide)) (pa_cons (pv 0) (pa_cons pe_int pa_nil))) (pa_cons (pv 1) (pa_cons pe_int pa_nil)))))
      (pss_cons (ps_set (i := 3) sc_law.nd rfl (Or.inl rfl) (pe_fn (ok__law_row T) (hr.mono (by decide)) (pa_cons (pe_fn (ok__law_cell T) (hr.mono (by decide)) (pa_cons (pv 0) (pa_cons pe_int pa_nil))) (pa_cons (pv 1) (pa_cons pe_int pa_nil)))))
      (pss_cons (ps_asg (pe_fn (ok__law_drawn T) (hr.mono (by decide)) (pa_cons (pe_op op_add (pe_fn (ok__law_cell T) (hr.mono (by decide)) (pa_cons (pv 0) (pa_cons pe_int pa_nil))) pe_int) (pa_cons (pe_lst (pa_cons pe_int (pa_cons pe_int (pa_cons pe_int (pa_cons pe_int pa_nil))))) pa_nil))) (pg_unl rfl (pgs_cons (pg_name (i := 4) sc_law.nd rfl (Or.inl rfl)) (pgs_cons (pg_name (i := 5) sc_law.nd rfl (Or.inl rfl)) (pgs_cons (pg_name (i := 6) sc_law.nd rfl (Or.inl rfl)) (pgs_cons (pg_name (i := 7) sc_law.nd rfl (Or.inl rfl)) pgs_nil))))))
      (pss_cons (ps_if (pt_cmpR op_gt (pv 4) pe_int (nomark _)) (pss_one (ps_set (i := 6) sc_law.nd rfl (Or.inl rfl) (pv 5))) pss_nil)
      (pss_cons (ps_set (i := 8) sc_law.nd rfl (Or.inl rfl) (pe_lst (pa_cons (pe_lst (pa_cons (pv 2) (pa_cons (pv 3) (pa_cons (pv 6) pa_nil)))) (pa_cons (pe_lst (pa_cons (pv 3) (pa_cons (pv 2) (pa_cons (pv 5) pa_nil)))) pa_nil))))
      (pss_cons (ps_set (i := 9) sc_law.nd rfl (Or.inl rfl) (pe_lst (pa_cons (pe_nw (new_Watch T) (hr.mono (by decide)) (pa_cons (pv 2) (pa_cons (pv 3) (pa_cons (pv 6) pa_nil)))) (pa_cons (pe_nw (new_Watch T) (hr.mono (by decide)) (pa_cons (pv 3) (pa_cons (pv 2) (pa_cons (pv 5) pa_nil)))) pa_nil))))
      (pss_cons (ps_set (i := 10) sc_law.nd rfl (Or.inl rfl) (pe_lst (pa_cons (pe_fn (ok__law_stretches T) (hr.mono (by decide)) (pa_cons (pe_ix ix_list (pv 8) pe_int (fun _ _ => rfl)) pa_nil)) (pa_cons (pe_fn (ok__law_stretches T) (hr.mono (by decide)) (pa_cons (pe_ix ix_list (pv 8) pe_int (fun _ _ => rfl)) pa_nil)) pa_nil))))
      (pss_cons (ps_set (i := 11) sc_law.nd rfl (Or.inl rfl) (pe_lst (pa_cons (pe_callTy call_list_of (by rfl) T.z_list (by decide +kernel) (pa_cons (pe_ix ix_list (pv 10) pe_int (fun _ _ => rfl)) pa_nil)) (pa_cons (pe_callTy call_list_of (by rfl) T.z_list (by decide +kernel) (pa_cons (pe_ix ix_list (pv 10) pe_int (fun _ _ => rfl)) pa_nil)) pa_nil))))
      (pss_cons (ps_if (PW.pt (pw_and (pt_cmpR op_eq (pe_op op_modNat (pv 7) pe_int) pe_int (nomark _)) (pw_and1 (pt_not (pt_val (pe_fn (ok__law_ranked_as T) (hr.mono (by decide)) (pa_cons (pe_ix ix_list (pv 9) pe_int (fun _ _ => rfl)) (pa_cons (pe_ix ix_list (pv 8) pe_int (fun _ _ => rfl)) (pa_cons (pe_ix ix_list (pv 10) pe_int (fun _ _ => rfl)) (pa_cons (pe_op op_modNat (pe_op op_modNat (pv 7) pe_int) (pe_op op_add (pe_callB call_len_str (by rfl) T.z_len (by decide +kernel) (pa_cons (pv 3) pa_nil)) pe_int)) pa_nil)))))))))) (pss_one (ps_ret pe_bl)) pss_nil)
      (pss_cons (ps_set (i := 12) sc_law.nd rfl (Or.inl rfl) (pe_lst (pa_cons (pe_lst pa_nil) (pa_cons (pe_lst pa_nil) pa_nil))))
      (pss_cons (ps_set (i := 13) sc_law.nd rfl (Or.inl rfl) pe_int)
      (pss_cons (ps_if (pt_cmpR op_gt (pe_op op_add (pe_callB call_len_str (by rfl) T.z_len (by decide +kernel) (pa_cons (pv 2) pa_nil)) (pe_callB call_len_str (by rfl) T.z_len (by decide +kernel) (pa_cons (pv 3) pa_nil))) pe_int (nomark _)) (pss_one (ps_set (i := 13) sc_law.nd rfl (Or.inl rfl) pe_int)) pss_nil)
      (pss_cons (ps_for PassesOwn.never rfl (pi_list (pe_slice sl_list (pv 0) (po_some pe_int) (po_some (pv 13)))) (pg_name (i := 14) sc_law.nd rfl (Or.inl rfl))
      (pss_cons (ps_asg (pe_fn (ok__law_drawn T) (hr.mono (by decide)) (pa_cons (pv 14) (pa_cons (pe_lst (pa_cons pe_int (pa_cons pe_int (pa_cons pe_int pa_nil)))) pa_nil))) (pg_unl rfl (pgs_cons (pg_name (i := 15) sc_law.nd rfl (Or.inl rfl)) (pgs_cons (pg_name (i := 16) sc_law.nd rfl (Or.inl rfl)) (pgs_cons (pg_name (i := 17) sc_law.nd rfl (Or.inl rfl)) pgs_nil)))))
      (pss_cons (ps_set (i := 18) sc_law.nd rfl (Or.inl rfl) (pe_fn (ok__law_step T) (hr.mono (by decide)) (pa_cons (pe_ix ix_list (pv 9) (pv 15) (fun _ _ => rfl)) (pa_cons (pe_ix ix_list (pv 8) (pv 15) (fun _ _ => rfl)) (pa_cons (pe_ix ix_list (pv 12) (pv 15) (fun _ _ => rfl)) (pa_cons (pv 14) (pa_cons (pv 1) pa_nil)))))))
      (pss_cons (ps_set (i := 19) sc_law.nd rfl (Or.inl rfl) (pe_fn (ok__law_stretches T) (hr.mono (by decide)) (pa_cons (pe_ix ix_list (pv 8) (pv 15) (fun _ _ => rfl)) pa_nil)))
      (pss_cons (ps_if (PW.pt (pw_or (pt_not (pt_val (pe_fn (ok__law_news_kind T) (hr.mono (by decide)) (pa_cons (pv 18) pa_nil)))) (pw_or1 (pt_cmpR (op_neD hr.units) (pv 18) (pe_fn (ok__law_news T) (hr.mono (by decide)) (pa_cons (pe_ix ix_list (pv 10) (pv 15) (fun _ _ => rfl)) (pa_cons (pv 19) pa_nil))) (nomark _))))) (pss_one (ps_ret pe_bl)) pss_nil)
      (pss_cons (ps_asg (pe_fn (ok_followed T) (hr.mono (by decide)) (pa_cons (pe_ix ix_list (pv 11) (pv 15) (fun _ _ => rfl)) (pa_cons (pv 18) pa_nil))) (pg_sub (pv 11) (pv 15) set_list))
      (pss_cons (ps_asg (pv 19) (pg_sub (pv 10) (pv 15) set_list))
      (pss_cons (ps_expr (pe_bm PySem.F.plainAttrs_list PySem.F.slot_list_append PySem.F.type_list_append mt_append (pe_ix ix_tup (pv 18) pe_int (fun _ _ => rfl)) (pa_cons (pe_tup (pa_cons pe_int (pa_cons pe_int (pa_cons pe_int pa_nil)))) pa_nil)))
      (pss_cons (ps_expr (pe_bm0 PySem.F.plainAttrs_list PySem.F.slot_list_clear PySem.F.type_list_clear mt_clear (pe_ix ix_tup (pv 18) pe_int (fun _ _ => rfl))))
      (pss_cons (ps_expr (pe_bm0 PySem.F.plainAttrs_list PySem.F.slot_list_clear PySem.F.type_list_clear mt_clear (pe_ix ix_tup (pv 18) pe_int (fun _ _ => rfl))))
      (pss_one (ps_if (pt_cmpR op_eq (pv 16) pe_int (nomark _)) (pss_one (ps_if (pt_not (pt_val (pe_fn (ok__law_stands T) (hr.mono (by decide)) (pa_cons (pe_ix ix_list (pv 9) (pv 15) (fun _ _ => rfl)) (pa_cons (pe_ix ix_list (pv 8) (pv 15) (fun _ _ => rfl)) (pa_cons (pe_ix ix_list (pv 10) (pv 15) (fun _ _ => rfl)) (pa_cons (pe_ix ix_list (pv 11) (pv 15) (fun _ _ => rfl)) (pa_cons (pv 17) pa_nil)))))))) (pss_one (ps_ret pe_bl)) pss_nil)) pss_nil))))))))))))
      (pss_cons (ps_if (pt_not (pt_val (pe_fn (ok__law_stands T) (hr.mono (by decide)) (pa_cons (pe_ix ix_list (pv 9) pe_int (fun _ _ => rfl)) (pa_cons (pe_ix ix_list (pv 8) pe_int (fun _ _ => rfl)) (pa_cons (pe_ix ix_list (pv 10) pe_int (fun _ _ => rfl)) (pa_cons (pe_ix ix_list (pv 11) pe_int (fun _ _ => rfl)) (pa_cons (pv 7) pa_nil)))))))) (pss_one (ps_ret pe_bl)) pss_nil)
      (pss_one (ps_ret (pe_fn (ok__law_stands T) (hr.mono (by decide)) (pa_cons (pe_ix ix_list (pv 9) pe_int (fun _ _ => rfl)) (pa_cons (pe_ix ix_list (pv 8) pe_int (fun _ _ => rfl)) (pa_cons (pe_ix ix_list (pv 10) pe_int (fun _ _ => rfl)) (pa_cons (pe_ix ix_list (pv 11) pe_int (fun _ _ => rfl)) (pa_cons (pv 7) pa_nil))))))))))))))))))))))), ?_⟩
    have mv : ∀ {H'}, Same H H' → CellsAt K H' a ns := fun s => hS.elim (fun h => .inl (h.elim (fun h => .inl (s _ _ h)) fun ⟨o, h⟩ => .inr ⟨o, s _ _ h⟩)) fun h => .inr h
    refine ⟨_, rfl, a, ns, 0, rfl, hS, fun c0 => ?_⟩
    refine ⟨c0, rfl, ?_⟩
    rintro v1 H1 s1 ⟨le, cs, rfl, hle0, hle, hcs⟩
    refine ⟨_, rfl, a, ns, 1, rfl, mv s1, fun c1 => ?_⟩
    refine ⟨_, rfl, c1, le, cs, rfl, hle, hcs, ?_⟩
    rintro v2 H2 s2 ⟨side, rfl, ps⟩
    refine ⟨_, rfl, a, ns, 2, rfl, mv (s1.trans s2), fun c2 => ?_⟩
    refine ⟨_, rfl, c2, le, cs, rfl, s2 _ _ hle, hcs, ?_⟩
    rintro v3 H3 s3 ⟨top, rfl, pt⟩
    have s13 := s1.trans (s2.trans s3)
    refine ⟨_, rfl, a, ns, 2, rfl, mv s13, fun c3 => ?_⟩
    refine ⟨_, _, rfl, rfl, (by show 4 ≤ sizeLine; decide), fun p hp => ?_⟩
    have w3 := same_new hp (o := .lst (IL [4, 7, 49, 997]))
    refine ⟨_, p, [4, 7, 49, 997], rfl, upd_same, by decide, by decide, ?_⟩
    rintro v4 H4 s4 ⟨r4, ds, rfl, hr4, hD4, hl4, hd4⟩
    obtain ⟨d0, d1, d2, d3, rfl⟩ := four hl4
    have q1 : d1 < 7 := hd4 1 (by decide)
    have q2 : d2 < 49 := hd4 2 (by decide)
    have s14 := s13.trans (w3.trans s4)
    refine ⟨r4, _, rfl, SqL.of hD4, rfl, _, _, rfl, _, _, rfl, _, _, rfl, _, _, rfl, rfl, ?_⟩
    have hle4 := (s2.trans (s3.trans (w3.trans s4))) _ _ hle
    clear hd4 hl4 hD4 hr4 s4 w3 hp
    dsimp only
    refine seq_mid (fun σ' H' => ∃ n : Nat, n < 49 ∧ H' = H4 ∧ σ' = [some (.ref a), some (.ref le), some (.str (sOf side)), some (.str (sOf top)), some (nV d0), some (nV d1), some (nV n), some (nV d3), none, none, none, none, none, none, none, none, none, none, none, none]) (fun N hN => ?_) ?_
    · refine ⟨_, rfl, _, _, rfl, rfl, _, rfl, iteC (fun _ => ?_) (fun _ => hN _ _ ⟨d2, q2, rfl, rfl⟩)⟩
      exact ⟨_, rfl, hN _ _ ⟨d1, by omega, rfl, rfl⟩⟩
    rintro σ5 H5 ⟨most, hm, rfl, rfl⟩
    -- the two states
    refine ⟨_, rfl, _, rfl, _, rfl, (by show 3 ≤ sizeLine; decide), fun st0 nst0 => ?_⟩
    have hst0 := nst0
    refine ⟨_, rfl, _, rfl, _, rfl, (by show 3 ≤ sizeLine; decide), fun st1 hst1 => ?_⟩
    refine ⟨(by show 2 ≤ sizeLine; decide), fun ST hST => ?_⟩
    refine at_state (t := tSeq _ _) (σ' := [some (.ref a), some (.ref le), some (.str (sOf side)), some (.str (sOf top)), some (nV d0), some (nV d1), some (nV most), some (nV d3), some (.ref ST), none, none, none, none, none, none, none, none, none, none, none]) rfl ?_
    have w1 := same_new hst0 (o := .lst [.str (sOf side), .str (sOf top), nV most])
    have w2 := same_new hst1 (o := .lst [.str (sOf top), .str (sOf side), nV d1])
    have w3 := same_new hST (o := .lst [.ref st0, .ref st1])
    obtain ⟨K6, f6⟩ : ∃ K6, K6 = upd (upd H5 st0 (.lst [.str (sOf side), .str (sOf top), nV most])) st1 (.lst [.str (sOf top), .str (sOf side), nV d1]) := ⟨_, rfl⟩
    have t56 : Same H5 K6 := by rw [f6]; exact w1.trans w2
    have t67 : Same K6 (upd K6 ST (.lst [.ref st0, .ref st1])) := by rw [f6]; exact w3
    have k0 : K6 st0 = some (.lst [.str (sOf side), .str (sOf top), nV most]) := by rw [f6]; exact w2 _ _ upd_same
    have k1 : K6 st1 = some (.lst [.str (sOf top), .str (sOf side), nV d1]) := by rw [f6]; exact upd_same
    have nST : K6 ST = none := by rw [f6]; exact hST
    have nst1 : H5 st1 = none := w1.free hst1
    have a0 := (w2.trans w3) _ _ (upd_same (H := H5) (a := st0))
    have a1 := w3 _ _ (upd_same (H := upd H5 st0 (.lst [.str (sOf side), .str (sOf top), nV most])) (a := st1))
    have aST := upd_same (H := upd (upd H5 st0 (.lst [.str (sOf side), .str (sOf top), nV most])) st1 (.lst [.str (sOf top), .str (sOf side), nV d1])) (a := ST) (o := .lst [.ref st0, .ref st1])
    have s5 := w1.trans (w2.trans w3)
    have n0 : st0 ≠ st1 := ne_of_none upd_same hst1
    rw [← f6] at a0 a1 aST s5 w3 ⊢
    obtain ⟨H6, e6⟩ : ∃ H6, H6 = upd K6 ST (.lst [.ref st0, .ref st1]) := ⟨_, rfl⟩
    rw [← e6] at a0 a1 aST s5 t67 ⊢
    have aST6 := aST
    clear w1 w2 w3 e6 f6
    have s16 := s14.trans s5
    have hle6 := s5 _ _ hle4
    -- the two watches
    refine ⟨_, rfl, _, rfl, _, rfl, fun w0 dx0 hw0 hdx0 ndx0 => ?_⟩
    refine ⟨w0, dx0, side, top, (most : Int), rfl, upd_same, ps, pt, by omega, by omega, ?_⟩
    intro H7 x0 g0 e0 rows0 s7 hx0 hg0 he0 hW0
    have s67 : Same H6 H7 := made_same hw0 hdx0 s7
    have hx0' := made_free hx0
    have hg0' := made_free hg0
    have he0' := made_free he0
    refine ⟨rfl, ?_⟩
    refine ⟨_, rfl, _, rfl, _, rfl, fun w1 dx1 hw1 hdx1 ndx1 => ?_⟩
    refine ⟨w1, dx1, top, side, (d1 : Int), rfl, upd_same, pt, ps, by omega, by omega, ?_⟩
    intro H8 x1 g1 e1 rows1 s8 hx1 hg1 he1 hW1
    have s78 : Same H7 H8 := made_same hw1 hdx1 s8
    have hx1' := made_free hx1
    have hg1' := made_free hg1
    have he1' := made_free he1
    refine ⟨rfl, ?_⟩
    refine ⟨(by show 2 ≤ sizeLine; decide), fun HO hHO => ?_⟩
    have w9 := same_new hHO (o := .lst [.ref w0, .ref w1])
    dsimp only [gName, List.set_cons_succ, List.set_cons_zero]
    obtain ⟨H9, e9⟩ : ∃ H9, H9 = upd H8 HO (.lst [.ref w0, .ref w1]) := ⟨_, rfl⟩
    have aHO : H9 HO = some (.lst [.ref w0, .ref w1]) := by rw [e9]; exact upd_same
    rw [← e9] at w9 ⊢
    clear s7 s8 hx0 hg0 he0 hx1 hg1 he1 e9
    have s69 := s67.trans (s78.trans w9)
    have a0 := s69 _ _ a0
    have a1 := s69 _ _ a1
    have aST := s69 _ _ aST
    have hW0k := hW0
    have hW1k := hW1
    have hW0 := hW0.mono (s78.trans w9)
    have hW1 := hW1.mono w9
    have nHO := hHO
    -- the lists due
    refine ⟨_, rfl, ST, _, _, _, rfl, rfl, SqL.of aST, at0, ?_⟩
    refine ⟨st0, side, top, (most : Int), rfl, a0, ps, pt, ?_⟩
    rintro v10 H10 s10 ⟨du0, r0, rfl, hdu0, hT0, hN0⟩
    refine ⟨_, rfl, ST, _, _, _, rfl, rfl, SqL.of (s10 _ _ aST), at1, ?_⟩
    refine ⟨st1, top, side, (d1 : Int), rfl, s10 _ _ a1, pt, ps, ?_⟩
    rintro v11 H11 s11 ⟨du1, r1, rfl, hdu1, hT1, hN1⟩
    refine ⟨(by show 2 ≤ sizeLine; decide), fun D hD => ?_⟩
    have er0 : r0 = rows0 := by
      obtain ⟨_, _, _, _, _, hn, _⟩ := id hW0
      exact hN0.uniq hn
    have er1 : r1 = rows1 := by
      obtain ⟨_, _, _, _, _, hn, _⟩ := id hW1
      exact hN1.uniq hn
    subst er0
    subst er1
    have w12 := same_new hD (o := .lst [.ref du0, .ref du1])
    dsimp only [gName, List.set_cons_succ, List.set_cons_zero]
    obtain ⟨H12, e12⟩ : ∃ H12, H12 = upd H11 D (.lst [.ref du0, .ref du1]) := ⟨_, rfl⟩
    have aD : H12 D = some (.lst [.ref du0, .ref du1]) := by rw [e12]; exact upd_same
    rw [← e12] at w12 ⊢
    have t9_11 := s10.trans s11
    have t12 := w12
    have kT0 := hT0.mono s11
    have kT1 := hT1
    clear e12
    have hT0 := hT0.mono (s11.trans w12)
    have hT1 := hT1.mono w12
    obtain ⟨ts0, ht0, hTs0⟩ := id hT0
    obtain ⟨ts1, ht1, hTs1⟩ := id hT1
    -- the lists heard
    refine ⟨_, rfl, D, _, _, _, rfl, rfl, SqL.of aD, at0, du0, _, rfl, .inl (SqL.of ht0), fun he0 hhe0 => ?_⟩
    have w13 := same_new hhe0 (o := .lst (RL ts0))
    refine ⟨_, rfl, D, _, _, _, rfl, rfl, SqL.of (w13 _ _ aD), at1, du1, _, rfl, .inl (SqL.of (w13 _ _ ht1)), fun he1 hhe1 => ?_⟩
    have w14 := same_new hhe1 (o := .lst (RL ts1))
    refine ⟨(by show 2 ≤ sizeLine; decide), fun E hE => ?_⟩
    have w15 := same_new hE (o := .lst [.ref he0, .ref he1])
    dsimp only [gName, List.set_cons_succ, List.set_cons_zero]
    obtain ⟨H14, e14⟩ : ∃ H14, H14 = upd (upd H12 he0 (.lst (RL ts0))) he1 (.lst (RL ts1)) := ⟨_, rfl⟩
    have nhe1 : H12 he1 = none := w13.free hhe1
    have b0' : H14 he0 = some (.lst (RL ts0)) := by rw [e14]; exact w14 _ _ upd_same
    have b1' : H14 he1 = some (.lst (RL ts1)) := by rw [e14]; exact upd_same
    have hU0' : T3 H14 he0 r0 := ⟨ts0, b0', hTs0.1, fun i hi => by rw [e14]; exact (w13.trans w14) _ _ (hTs0.2 i hi)⟩
    have hU1' : T3 H14 he1 r1 := ⟨ts1, b1', hTs1.1, fun i hi => by rw [e14]; exact (w13.trans w14) _ _ (hTs1.2 i hi)⟩
    rw [← e14] at w14 w15 hE ⊢
    have t12_14 := w13.trans w14
    obtain ⟨H15, e15⟩ : ∃ H15, H15 = upd H14 E (.lst [.ref he0, .ref he1]) := ⟨_, rfl⟩
    have aE : H15 E = some (.lst [.ref he0, .ref he1]) := by rw [e15]; exact upd_same
    have b0 : H15 he0 = some (.lst (RL ts0)) := by rw [e15]; exact w15 _ _ b0'
    have b1 : H15 he1 = some (.lst (RL ts1)) := by rw [e15]; exact w15 _ _ b1'
    rw [← e15] at w15 ⊢
    clear e15 e14
    have s12_15 := w13.trans (w14.trans w15)
    have hU0 : T3 H15 he0 r0 := ⟨ts0, b0, hTs0.1, fun i hi => s12_15 _ _ (hTs0.2 i hi)⟩
    have hU1 : T3 H15 he1 r1 := ⟨ts1, b1, hTs1.1, fun i hi => s12_15 _ _ (hTs1.2 i hi)⟩
    have s9_12 := s10.trans (s11.trans w12)
    have s9_15 := s9_12.trans s12_15
    refine seq_mid (fun σ' H' => σ' = [some (.ref a), some (.ref le), some (.str (sOf side)), some (.str (sOf top)), some (nV d0), some (nV d1), some (nV most), some (nV d3), some (.ref ST), some (.ref HO), some (.ref D), some (.ref E), none, none, none, none, none, none, none, none] ∧ Same H15 H') (fun N hN => ?_) ?_
    · refine ⟨_, rfl, d3, 2, rfl, rfl, by decide, rfl, _, rfl, iteC (fun _ => ?_) (fun _ => hN _ _ ⟨rfl, Same.refl _⟩)⟩
      have z24 := pt.1
      refine ⟨_, rfl, HO, _, _, _, rfl, rfl, SqL.of (s9_15 _ _ aHO), at0, ?_⟩
      refine ⟨_, rfl, ST, _, _, _, rfl, rfl, SqL.of (s9_15 _ _ aST), at0, ?_⟩
      refine ⟨_, rfl, D, _, _, _, rfl, rfl, SqL.of (s12_15 _ _ aD), at0, ?_⟩
      refine ⟨_, rfl, d3, 3, rfl, rfl, by decide, _, rfl, _, rfl, plen pt, _, _, rfl, rfl, d3 % 3, top.length + 1, rfl, by rw [sOf_len]; rfl, by omega, ?_⟩
      refine ⟨w0, x0, g0, e0, st0, du0, side, top, (most : Int), r0, d3 % 3 % (top.length + 1), rfl, hW0.mono s9_15, s9_15 _ _ a0, hT0.mono s12_15, by have := Nat.mod_lt (d3 % 3) (show 0 < top.length + 1 by omega); omega, ?_⟩
      rintro v16 H16 s16' rfl
      exact ⟨_, rfl, iteF (hN _ _ ⟨rfl, s16'⟩)⟩
    rintro σ16 H16 ⟨rfl, s15_16⟩
    -- the stacks
    refine ⟨(by show 0 ≤ sizeLine; decide), fun u0 hu0 => ?_⟩
    have w17 := same_new hu0 (o := .lst [])
    refine ⟨(by show 0 ≤ sizeLine; decide), fun u1 hu1 => ?_⟩
    have w18 := same_new hu1 (o := .lst [])
    refine ⟨(by show 2 ≤ sizeLine; decide), fun UU hUU => ?_⟩
    have w19 := same_new hUU (o := .lst [.ref u0, .ref u1])
    dsimp only [gName, List.set_cons_succ, List.set_cons_zero]
    obtain ⟨H18, e18⟩ : ∃ H18, H18 = upd (upd H16 u0 (.lst [])) u1 (.lst []) := ⟨_, rfl⟩
    have d0' : H18 u0 = some (.lst []) := by rw [e18]; exact w18 _ _ upd_same
    have d1' : H18 u1 = some (.lst []) := by rw [e18]; exact upd_same
    rw [← e18] at w18 w19 hUU ⊢
    have t16_18 := w17.trans w18
    obtain ⟨H19, e19⟩ : ∃ H19, H19 = upd H18 UU (.lst [.ref u0, .ref u1]) := ⟨_, rfl⟩
    have aUU : H19 UU = some (.lst [.ref u0, .ref u1]) := by rw [e19]; exact upd_same
    have c0 : H19 u0 = some (.lst []) := by rw [e19]; exact w19 _ _ d0'
    have c1 : H19 u1 = some (.lst []) := by rw [e19]; exact w19 _ _ d1'
    have nu01 : u0 ≠ u1 := ne_of_none upd_same hu1
    have hu1' : H16 u1 = none := by
      rw [upd_ne nu01.symm] at hu1
      exact hu1
    rw [← e19] at w19 ⊢
    clear e19 e18
    have s16_19 := w17.trans (w18.trans w19)
    have s15_19 := s15_16.trans s16_19
    refine seq_set ?_
    dsimp only [List.set_cons_succ, List.set_cons_zero]
    refine seq_mid (fun σ' H' => H' = H19 ∧ ∃ l : Nat, l ≤ 13 ∧ σ' = [some (.ref a), some (.ref le), some (.str (sOf side)), some (.str (sOf top)), some (nV d0), some (nV d1), some (nV most), some (nV d3), some (.ref ST), some (.ref HO), some (.ref D), some (.ref E), some (.ref UU), some (nV l), none, none, none, none, none, none]) (fun N hN => ?_) ?_
    · refine ⟨_, rfl, _, rfl, plen ps, _, rfl, _, rfl, plen pt, _, _, rfl, rfl, _, _, rfl, rfl, _, rfl, iteC (fun _ => ?_) (fun _ => hN _ _ ⟨rfl, 13, by omega, rfl⟩)⟩
      exact hN _ _ ⟨rfl, 5, by omega, rfl⟩
    rintro σ20 H20 ⟨rfl, last, hlast, rfl⟩
    refine ⟨_, rfl, _, rfl, _, rfl, _, rfl, a, _, rfl, mv ?_, fun sl hsl => ?_⟩
    · exact s16.trans (s69.trans (s9_15.trans s15_19))
    obtain ⟨ms, ems, hms⟩ := cut_ints ns last
    rw [ems] at *
    have w20 := same_new hsl (o := .lst (ms.map V.int))
    obtain ⟨H21, e21⟩ : ∃ H21, H21 = upd H20 sl (.lst (ms.map V.int)) := ⟨_, rfl⟩
    have asl : H21 sl = some (.lst (ms.map V.int)) := by rw [e21]; exact upd_same
    rw [← e21] at w20 ⊢
    clear e21
    obtain ⟨⟨_, _, _, ow0, _⟩, ⟨_, _, _, ox0, _⟩, ⟨_, _, _, og0, _⟩, _, oe0⟩ := WatchAt.own hW0k
    obtain ⟨⟨_, _, _, ow1, _⟩, ⟨_, _, _, ox1, _⟩, ⟨_, _, _, og1, _⟩, _, oe1⟩ := WatchAt.own hW1k
    have L0 := law_start (q0 := ⟨side, top, (most : Int)⟩) (q1 := ⟨top, side, (d1 : Int)⟩) t56 t67 s67 s78 w9 t9_11 t12 t12_14 w15 s15_16 t16_18 w19 w20 ⟨_, hle4⟩ nst0 ⟨_, k0⟩ nst1 ⟨_, k1⟩ nST ⟨_, aST6⟩ hw0 ⟨_, ow0⟩ hx0' ⟨_, ox0⟩ hg0' ⟨_, og0⟩ he0' ⟨_, oe0⟩
      hw1 ⟨_, ow1⟩ hx1' ⟨_, ox1⟩ hg1' ⟨_, og1⟩ he1' ⟨_, oe1⟩ nHO ⟨_, aHO⟩ hdu0 ⟨_, kT0.choose_spec.1⟩ (s10.free hdu1) ⟨_, kT1.choose_spec.1⟩ hD ⟨_, aD⟩ hhe0 ⟨_, b0'⟩ nhe1 ⟨_, b1'⟩ hE ⟨_, aE⟩ hu0 ⟨_, d0'⟩ hu1' ⟨_, d1'⟩ hUU ⟨_, aUU⟩ hsl ⟨_, asl⟩
      n0 nu01 hW0k hW1k k0 k1 d0' d1' kT0 kT1 hU0' hU1' aD aE
    have L1 : ∃ P Z C, LoopAt K le ST HO UU D E sl cs ms 0 H21 P Z C := by
      have s5_21 : Same H5 H21 := s5.trans (s69.trans (s9_15.trans (s15_19.trans w20)))
      have e : ∀ {y o}, y ∈ [le, ST, HO, UU, sl] → H21 y = some o → onlyS [le, ST, HO, UU, sl] H21 y = some o := fun m e => (onlyS_in m).trans e
      exact ⟨_, _, _, L0, e (by simp) (s5_21 _ _ hle4), e (by simp) ((s9_15.trans (s15_19.trans w20)) _ _ aST), e (by simp) ((s9_15.trans (s15_19.trans w20)) _ _ aHO), e (by simp) (w20 _ _ aUU), e (by simp) asl, fun t => by cases t <;> exact Nat.le_refl _⟩
    clear L0
    clear hle hle4 a0 a1 aST aHO aD aE aUU c0 c1 hW0 hW1 hT0 hT1 hU0 hU1
    refine ⟨sl, rfl, ⟨_, SqL.of asl⟩, for_list (xs := ms.map V.int) (fun i σ H' => ∃ v14 v15 v16 v17 v18 v19 : Option V, σ = [some (.ref a), some (.ref le), some (.str (sOf side)), some (.str (sOf top)), some (nV d0), some (nV d1), some (nV most), some (nV d3), some (.ref ST), some (.ref HO), some (.ref D), some (.ref E), some (.ref UU), some (nV last), v14, v15, v16, v17, v18, v19] ∧ ∃ P Z C, LoopAt K le ST HO UU D E sl cs ms i H' P Z C)
      ⟨_, _, _, _, _, _, rfl, L1⟩ (fun i σ H' _ ⟨_, _, _, _, _, _, _, P, Z, C, L⟩ => SqL.of (L.at_.subC _ _ L.sl)) ?_ ?_⟩
    · rintro i x σ H hx ⟨v14, v15, v16, v17, v18, v19, rfl, P, Z, C, L⟩
      obtain ⟨c, rfl⟩ := ints_at hx
      have hil : i < ms.length := by
        have := (List.getElem?_eq_some_iff.mp hx).1
        rwa [List.length_map] at this
      dsimp only [gName, List.set_cons_succ, List.set_cons_zero]
      refine ⟨_, rfl, (by show 3 ≤ sizeLine; decide), fun p hp => ?_⟩
      have w1 := same_new hp (o := .lst (IL [2, 2, 997]))
      refine ⟨c, p, [2, 2, 997], rfl, upd_same, by decide, by decide, ?_⟩
      rintro v1 H1 s1 ⟨r1, dd, rfl, hr1, hD1, hl1, hd1⟩
      obtain ⟨dt, da, dn, rfl⟩ := three hl1
      have qt : dt < 2 := hd1 0 (by decide)
      obtain ⟨t, rfl⟩ := bool_of qt
      refine ⟨r1, _, rfl, SqL.of hD1, rfl, _, _, rfl, _, _, rfl, _, _, rfl, rfl, ?_⟩
      dsimp only [gName, List.set_cons_succ, List.set_cons_zero]
      replace L := L.mono (w1.trans s1)
      clear w1 s1 hr1 hD1 hl1 hd1 qt hp
      have h := L.at_
      have eST := h.subC _ _ L.ST
      have eHO := h.subC _ _ L.HL
      have eUU := h.subC _ _ L.UU
      refine ⟨_, rfl, _, rfl, HO, _, _, _, rfl, rfl, SqL.of eHO, atI_nat (duo_get _ t), _, rfl, _, rfl, ST, _, _, _, rfl, rfl, SqL.of eST, atI_nat (duo_get _ t), _, rfl, _, rfl, UU, _, _, _, rfl, rfl, SqL.of eUU, atI_nat (duo_get _ t), _, rfl, _, rfl, ?_⟩
      refine ⟨(P t).w, (P t).x, (P t).g, (P t).d, (P t).st, (P t).u, le, c, (P t).s, (P t).A, (P t).us, (P t).ds, cs, rfl, h.W t, h.S t, h.U t, h.L t, (h.pane t).O, by have := L.few t; omega, h.subC _ _ L.le, hcs, ?_⟩
      rintro v2 H2 g' d' B r c2 a2 b2 s' us' ds' rfl hN n1 n2 n3 s2 hg hd hW2 hR2 hS2 hU2 hL2 hO2 few2
      dsimp only [gName, List.set_cons_succ, List.set_cons_zero]
      have un3 : Same (hid3 c2 a2 b2 H2) H2 := (unhide.trans unhide).trans unhide
      have sh := s2.trans un3
      have eST2 := (h.con t).trans sh _ _ L.ST
      have hS2' : StateAt H2 (P t).st s'.side s'.top s'.m := un3 _ _ (of_hide hS2).1
      have hok : s'.Ok := by
        obtain ⟨_, _, _, _, _, _, ps, pt, h0, h1⟩ := id hW2
        exact ⟨ps, pt, h0, h1⟩
      have hNB : Near (costTab s'.side s'.top) s'.m B := by
        obtain ⟨_, _, _, _, _, hn, _⟩ := id hW2
        exact hn
      have hNA : Near (costTab (P t).s.side (P t).s.top) (P t).s.m (P t).A := by
        obtain ⟨_, _, _, _, _, hn, _⟩ := id (h.W t)
        exact hn
      have hokA : NearOk (P t).A := by
        obtain ⟨_, _, _, _, _, hn, ps, pt, h0, h1⟩ := id (h.W t)
        exact near_ok pt.1 h1 hn
      have hokB : NearOk B := near_ok hok.pt.1 hok.hi hNB
      have fA := hokA.few
      have fB := hokB.few
      refine ⟨_, rfl, _, rfl, ST, _, _, _, rfl, rfl, SqL.of eST2, atI_nat (duo_get _ t), ?_⟩
      refine ⟨(P t).st, s'.side, s'.top, s'.m, rfl, hS2', hok.ps, hok.pt, ?_⟩
      rintro v3 H3 s3 ⟨du', B', rfl, hdu', hT', hN'⟩
      have eB := hN'.uniq hNB
      subst eB
      dsimp only [gName, List.set_cons_succ, List.set_cons_zero]
      obtain ⟨lD, lE⟩ := h.lists t
      have lD3 := (sh.trans s3) _ _ lD
      have lE3 := (sh.trans s3) _ _ lE
      have tD3 := ((h.du t).mono sh).mono s3
      have tE3 := ((h.he t).mono sh).mono s3
      have hN3 := hN.mono s3
      refine ⟨_, rfl, r, c2, a2, b2, (P t).A, B', rfl, hN3, by omega, by omega, hokB.nd, ?_⟩
      rintro v4 H4 s4 rfl
      refine ⟨_, rfl, iteF ?_⟩
      refine ⟨_, rfl, _, rfl, _, rfl, D, _, _, _, rfl, rfl, SqL.of (s4 _ _ lD3), atI_nat (duo_get _ t), _, rfl, ?_⟩
      refine ⟨(P t).du, du', (P t).A, B', rfl, tD3.mono s4, hT'.mono s4, hokA, hokB, ?_⟩
      rintro v5 H5 s5 ⟨r5, c5, a5, b5, rfl, hN5⟩
      have s35 := s4.trans s5
      refine ⟨_, _, (hN3.mono s35).dp, hN5.dp, newsD_shaped _ _, newsD_shaped _ _, ?_⟩
      rw [newsD_eqv]
      refine ⟨_, rfl, iteF ?_⟩
      dsimp only [tNext]
      -- heard
      have tE5 := tE3.mono s35
      have hN5' := hN3.mono s35
      refine ⟨_, rfl, _, rfl, E, _, _, _, rfl, rfl, SqL.of (s35 _ _ lE3), atI_nat (duo_get _ t), _, rfl, ?_⟩
      refine ⟨(P t).he, r, c2, a2, b2, (P t).A, B', rfl, tE5, hN5', hokA, hokB, ?_⟩
      rintro v6 H6 s6 ⟨he', rfl, hhe', hT6⟩
      have s36 := s35.trans s6
      have lE6 := s36 _ _ lE3
      have lD6 := s36 _ _ lD3
      have hN6 := hN3.mono s36
      refine ⟨_, rfl, _, rfl, E, _, _, _, rfl, rfl, lE6, ix_of (b2n_duo _ t), ?_⟩
      rw [duo_set]
      have yE := s2 _ _ lE
      have yD := s2 _ _ lD
      have kE := of_hide yE
      have kE2 := of_hide kE.1
      have kE3 := of_hide kE2.1
      have kD := of_hide yD
      have kD2 := of_hide kD.1
      have kD3 := of_hide kD2.1
      obtain ⟨hr6, ⟨tc, hc6, lc6⟩, ⟨ta, ha6, _⟩, ⟨tb, hb6, _⟩⟩ := id hN6
      have rE : r ≠ E := ne_kind hr6 lE6 (fun z => by cases z)
      have rD : r ≠ D := ne_kind hr6 lD6 (fun z => by cases z)
      refine ⟨_, rfl, _, rfl, _, rfl, D, _, _, _, rfl, rfl, (upd_ne h.ne).trans lD6, ix_of (b2n_duo _ t), ?_⟩
      rw [duo_set]
      have hr7 := (upd_ne (o := .lst (duo (sel t du' fun t => (P t).du))) rD).trans ((upd_ne (o := .lst (duo (sel t he' fun t => (P t).he))) rE).trans hr6)
      have hc7 := (upd_ne (o := .lst (duo (sel t du' fun t => (P t).du))) kD.2.symm).trans ((upd_ne (o := .lst (duo (sel t he' fun t => (P t).he))) kE.2.symm).trans hc6)
      have ha7 := (upd_ne (o := .lst (duo (sel t du' fun t => (P t).du))) kD2.2.symm).trans ((upd_ne (o := .lst (duo (sel t he' fun t => (P t).he))) kE2.2.symm).trans ha6)
      have hb7 := (upd_ne (o := .lst (duo (sel t du' fun t => (P t).du))) kD3.2.symm).trans ((upd_ne (o := .lst (duo (sel t he' fun t => (P t).he))) kE3.2.symm).trans hb6)
      have hD7 : upd (upd H6 E (.lst (duo (sel t he' fun t => (P t).he)))) D (.lst (duo (sel t du' fun t => (P t).du))) D = _ := upd_same
      have hE7 := (upd_ne (o := .lst (duo (sel t du' fun t => (P t).du))) h.ne.symm).trans (upd_same (H := H6) (a := E) (o := .lst (duo (sel t he' fun t => (P t).he))))
      have m7 : ∀ y o, H6 y = some o → y ≠ D → y ≠ E → upd (upd H6 E (.lst (duo (sel t he' fun t => (P t).he)))) D (.lst (duo (sel t du' fun t => (P t).du))) y = some o := fun y o e nD nE => (upd_ne nD).trans ((upd_ne nE).trans e)
      obtain ⟨H7, e7⟩ : ∃ H7, H7 = upd (upd H6 E (.lst (duo (sel t he' fun t => (P t).he)))) D (.lst (duo (sel t du' fun t => (P t).du))) := ⟨_, rfl⟩
      rw [← e7] at hr7 hc7 ha7 hb7 hD7 hE7 m7 ⊢
      clear e7
      refine ⟨_, rfl, r, _, _, _, rfl, rfl, SqT.of hr7, at0, .inl ⟨rfl, _, SqL.of hc7⟩, (by show 3 ≤ sizeLine; decide), fun q hq => ?_⟩
      have w8 := same_new hq (o := .tup [V.int 0, V.int 0, V.int 1])
      have hr8 := w8 _ _ hr7
      have hc8 := w8 _ _ hc7
      have ha8 := w8 _ _ ha7
      have hb8 := w8 _ _ hb7
      have hD8 := w8 _ _ hD7
      have hE8 := w8 _ _ hE7
      have m8 : ∀ y o, H6 y = some o → y ≠ D → y ≠ E → upd H7 q (.tup [V.int 0, V.int 0, V.int 1]) y = some o := fun y o e nD nE => w8 _ _ (m7 y o e nD nE)
      obtain ⟨H8, e8⟩ : ∃ H8, H8 = upd H7 q (.tup [V.int 0, V.int 0, V.int 1]) := ⟨_, rfl⟩
      rw [← e8] at hr8 hc8 ha8 hb8 hD8 hE8 m8 ⊢
      clear e8 w8
      have nc : (RL tc).length < sizeLine := bigS _ (by
        have := lc6.1
        have := cameL_len (P t).A B'
        rw [RL_len]
        omega)
      refine ⟨c2, _, _, rfl, rfl, hc8, nc, ?_⟩
      have rc : r ≠ c2 := ne_kind hr8 hc8 (fun z => by cases z)
      have ra : r ≠ a2 := ne_kind hr8 ha8 (fun z => by cases z)
      refine ⟨_, rfl, r, _, _, _, rfl, rfl, SqT.of ((upd_ne rc).trans hr8), at1, .inl ⟨rfl, _, SqL.of ((upd_ne n1.symm).trans ha8)⟩, a2, _, rfl, rfl, (upd_ne n1.symm).trans ha8, ?_⟩
      refine ⟨_, rfl, r, _, _, _, rfl, rfl, SqT.of ((upd_ne ra).trans ((upd_ne rc).trans hr8)), atI_nat (j := 2) rfl, .inl ⟨rfl, _, SqL.of ((upd_ne n3.symm).trans ((upd_ne n2.symm).trans hb8))⟩, b2, _, rfl, rfl, (upd_ne n3.symm).trans ((upd_ne n2.symm).trans hb8), ?_⟩
      obtain ⟨H9, e9⟩ : ∃ H9, H9 = upd (upd (upd H8 c2 (.lst (RL tc ++ [V.ref q]))) a2 (.lst [])) b2 (.lst []) := ⟨_, rfl⟩
      have hD9 : H9 D = some (.lst (duo (sel t du' fun t => (P t).du))) := by rw [e9]; exact (upd_ne kD3.2).trans ((upd_ne kD2.2).trans ((upd_ne kD.2).trans hD8))
      have hE9 : H9 E = some (.lst (duo (sel t he' fun t => (P t).he))) := by rw [e9]; exact (upd_ne kE3.2).trans ((upd_ne kE2.2).trans ((upd_ne kE.2).trans hE8))
      have m9 : ∀ y o, H6 y = some o → y ≠ D → y ≠ E → y ≠ c2 → y ≠ a2 → y ≠ b2 → H9 y = some o := fun y o e nD nE nc na nb => by rw [e9]; exact (upd_ne nb).trans ((upd_ne na).trans ((upd_ne nc).trans (m8 y o e nD nE)))
      rw [← e9]
      clear e9
      have s26 := s3.trans s36
      obtain ⟨Z', h'⟩ := h.step t hN s2 hg hd hW2 hR2 hS2 hU2 hL2 hO2 s26 (hT'.mono s36) hdu' hT6 ((s3.trans s35).free hhe') m9 hD9 hE9
      have L' : ∃ P' Z', LoopAt K le ST HO UU D E sl cs ms (i + 1) H9 P' Z' C := by
        refine ⟨_, Z', h', L.le, ?_, ?_, ?_, L.sl, fun t' => ?_⟩
        · exact L.ST.trans (congrArg (fun f => some (L2.HO.lst (duo f))) (sel_fix Pane.st P t { P t with g := g', d := d', du := du', he := he', s := s', A := B', us := us', ds := ds' } rfl).symm)
        · exact L.HL.trans (congrArg (fun f => some (L2.HO.lst (duo f))) (sel_fix Pane.w P t { P t with g := g', d := d', du := du', he := he', s := s', A := B', us := us', ds := ds' } rfl).symm)
        · exact L.UU.trans (congrArg (fun f => some (L2.HO.lst (duo f))) (sel_fix Pane.u P t { P t with g := g', d := d', du := du', he := he', s := s', A := B', us := us', ds := ds' } rfl).symm)
        · have f1 := L.few t
          have f2 := L.few t'
          unfold sel
          split
          · show us'.length ≤ i + 1
            omega
          · omega
      clear h' Z'
      obtain ⟨P', Z', L'⟩ := L'
      refine ⟨_, rfl, rfl, _, rfl, iteC (fun _ => ?_) (fun _ => ⟨_, _, _, _, _, _, rfl, _, _, _, L'⟩)⟩
      have h9 := L'.at_
      refine ⟨_, rfl, _, rfl, HO, _, _, _, rfl, rfl, SqL.of (h9.subC _ _ L'.HL), atI_nat (duo_get _ t), _, rfl, _, rfl, ST, _, _, _, rfl, rfl, SqL.of (h9.subC _ _ L'.ST), atI_nat (duo_get _ t), _, rfl, _, rfl, D, _, _, _, rfl, rfl, SqL.of h9.atD, atI_nat (duo_get _ t), _, rfl, _, rfl, E, _, _, _, rfl, rfl, SqL.of h9.atE, atI_nat (duo_get _ t), _, rfl, ?_⟩
      refine ⟨(P' t).w, (P' t).x, (P' t).g, (P' t).d, (P' t).st, (P' t).du, (P' t).he, (P' t).s.side, (P' t).s.top, (P' t).s.m, (P' t).A, dn, rfl, (h9.W t).mono unhide, (of_hide (h9.S t)).1, (h9.du t).mono hid_un, (h9.he t).mono hid_un, ?_⟩
      rintro v10 H10 s10 rfl
      exact ⟨_, rfl, iteF ⟨_, _, _, _, _, _, rfl, _, _, _, L'.mono s10⟩⟩
    · rintro σ H ⟨v14, v15, v16, v17, v18, v19, rfl, P, Z, C, L⟩
      have h9 := L.at_
      refine ⟨_, rfl, HO, _, _, _, rfl, rfl, SqL.of (h9.subC _ _ L.HL), at0, _, rfl, ST, _, _, _, rfl, rfl, SqL.of (h9.subC _ _ L.ST), at0, _, rfl, D, _, _, _, rfl, rfl, SqL.of h9.atD, at0, _, rfl, E, _, _, _, rfl, rfl, SqL.of h9.atE, at0, _, rfl, ?_⟩
      refine ⟨(P false).w, (P false).x, (P false).g, (P false).d, (P false).st, (P false).du, (P false).he, (P false).s.side, (P false).s.top, (P false).s.m, (P false).A, d3, rfl, (h9.W false).mono unhide, (of_hide (h9.S false)).1, (h9.du false).mono hid_un, (h9.he false).mono hid_un, ?_⟩
      rintro v1 H1 s1 rfl
      refine ⟨_, rfl, iteF ?_⟩
      have h9 := h9.mono s1
      refine ⟨_, rfl, HO, _, _, _, rfl, rfl, SqL.of (h9.subC _ _ L.HL), at1, _, rfl, ST, _, _, _, rfl, rfl, SqL.of (h9.subC _ _ L.ST), at1, _, rfl, D, _, _, _, rfl, rfl, SqL.of h9.atD, at1, _, rfl, E, _, _, _, rfl, rfl, SqL.of h9.atE, at1, _, rfl, ?_⟩
      refine ⟨(P true).w, (P true).x, (P true).g, (P true).d, (P true).st, (P true).du, (P true).he, (P true).s.side, (P true).s.top, (P true).s.m, (P true).A, d3, rfl, (h9.W true).mono unhide, (of_hide (h9.S true)).1, (h9.du true).mono hid_un, (h9.he true).mono hid_un, ?_⟩
      rintro v2 H2 s2 rfl
      exact k _
end Pt
end
set_option maxRecDepth 100000
set_option maxHeartbeats 4000000
namespace Pt
open PySem PySem.Spec PyProof.Rows L2
theorem law_facts {P : Program} {w : World} {K : PySem.W.Frag} {h : Heap} {mg : Str → Option Value} {f : Addr} (X : K.In h) (G : h.Ns mainGlobals mg) (hfa : mg ("law" : Str) = some (.ref f)) (c : SaysL K) :
    ∃ fd : FuncData, (∀ (s : Shared) (v : Value), BindsTo s fd ⟨[v], []⟩ [("_law_script", v)]) ∧ ∀ base : Heap, K.In base → base.Ns mainGlobals mg → FnOk P w K mg base CX0 115 f fd ["_law_script"] (sp_law K) := by
  have T : Tx K mg := ⟨⟨h, X, G⟩, c⟩
  obtain ⟨fd, F⟩ := T.D_law
  have e := hfa.symm.trans T.g_law
  cases e
  have b := FunD.bindsA (ps := ["_law_script"]) F fun _ _ _ _ _ _ us hl => match us, hl with | [_], _ => rfl
  exact ⟨fd, fun s v => b s [v] rfl, fun base _ _ => fn_law T F⟩
end Pt
open PySem PySem.W PySem.Calls PyProof.Rows
theorem PySem.Challenge.cw_panethread_k70_whole_watch_holds : PySem.Challenge.rw_panethread_k70_whole_watch.Holds := by
  refine Pt.Hd.top_holds fun w mg fa h Y G hmg => ?_
  obtain ⟨K, KX, c⟩ := Y
  obtain ⟨fd, hb, hF⟩ := Pt.law_facts (P := (PySem.Challenge.rw_panethread_k70_whole_watch).prog) (w := w) KX G hmg c
  exact ⟨K, fd, Pt.sp_law K, KX, hb, fun H a ns hl _ hS => ⟨a, ns, rfl, hS, fun _ => rfl⟩, hF⟩
