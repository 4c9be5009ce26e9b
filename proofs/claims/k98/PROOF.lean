import PyProof.Rows.All
import Wide.All
import OpenK.AllK
import Wide.FinOn
import KE.KStateDown
import HandS.ForMost
import HandS.ForExc
import HandS.Defaults
import HandS.Evl
import HandS.Flow
import HandS.Style
import HandS.FStr
import HandS.NoneIn
import HandS.IsInst
import HandS.RaiseMore
import HandS.Wide
import HandS.HeadEnd
import HandS.HeadHook1
import HandS.HeadHook2
import PySem.Challenge.RW_selvage_k98_whole_a_feed_by_lines
import HandS.Head0
import HandS.Head1
import HandS.Head2
import HandS.Walk
set_option Elab.async false
set_option linter.all false
set_option maxRecDepth 100000
set_option maxHeartbeats 0
/-! The text by places. -/
namespace Sv
open PySem PySem.Spec PyProof.Rows L2
def top (i : Nat) : Stmt := PySem.Challenge.pw_selvage_k98_whole_a_feed_by_lines.main.body.getD i (.Pass ⟨0, 0, 0, 0⟩)
abbrev s_running_sums : Stmt := top 2
abbrev s_ends_well : Stmt := top 3
abbrev s_heights : Stmt := top 4
abbrev s_last_kind : Stmt := top 5
abbrev s_cutting_told : Stmt := top 6
abbrev s_best : Stmt := top 7
abbrev s_checked_roll : Stmt := top 33
abbrev s_steps_back : Stmt := top 37
abbrev s_meeting_place : Stmt := top 38
abbrev s_good_name : Stmt := top 52
abbrev s_good_kind : Stmt := top 53
abbrev s_fault : Stmt := top 54
abbrev s_show_cutting : Stmt := top 96
abbrev s_read_whole : Stmt := top 97
abbrev s_read_name : Stmt := top 98
abbrev s_read_numbers : Stmt := top 99
abbrev s_read_kind : Stmt := top 100
abbrev s_read_table : Stmt := top 101
abbrev s_read_roll : Stmt := top 110
abbrev s_read_line : Stmt := top 115
abbrev s_Feed_init : Stmt := inClass (top 39) 0
abbrev s_Feed_still_open : Stmt := inClass (top 39) 1
abbrev s_Feed_fresh : Stmt := inClass (top 39) 2
abbrev s_Feed_take : Stmt := inClass (top 39) 3
abbrev s_Feed_close : Stmt := inClass (top 39) 4
abbrev s_Feed_closed : Stmt := inClass (top 39) 5
abbrev s_Feed_cells : Stmt := inClass (top 39) 6
abbrev s_Feed_cutting : Stmt := inClass (top 39) 8
abbrev s_Feed_is_open : Stmt := inClass (top 39) 9
abbrev s_Feed_open_starts : Stmt := inClass (top 39) 10
abbrev s_Feed_settled : Stmt := inClass (top 39) 11
abbrev s_Feed_sure : Stmt := inClass (top 39) 12
abbrev s_Stock_init : Stmt := inClass (top 91) 0
abbrev s_Desk_init : Stmt := inClass (top 121) 0
abbrev s_Desk_say : Stmt := inClass (top 121) 1
abbrev s_Desk_begun_anew : Stmt := inClass (top 121) 2
abbrev s_Desk_feed_said : Stmt := inClass (top 121) 3
abbrev s_Desk_feed_lines : Stmt := inClass (top 121) 4
abbrev s_law_cell : Stmt := top 123
abbrev s_law_mix : Stmt := top 124
abbrev s_law_row : Stmt := top 125
abbrev s_law_table : Stmt := top 126
abbrev s_law_flaw : Stmt := top 127
abbrev s_law_roll : Stmt := top 128
abbrev s_law_drawn : Stmt := top 129
abbrev s_law_sums : Stmt := top 130
abbrev s_law_good : Stmt := top 131
abbrev s_law_heights : Stmt := top 132
abbrev s_law_back : Stmt := top 133
abbrev s_law_cut : Stmt := top 134
abbrev s_law_starts : Stmt := top 135
abbrev s_law_stops : Stmt := top 136
abbrev s_law_settled : Stmt := top 137
abbrev s_law_line : Stmt := top 138
abbrev s_law_table_line : Stmt := top 139
abbrev s_law_cutting_line : Stmt := top 140
abbrev s_law_said : Stmt := top 141
abbrev s_law_sure : Stmt := top 142
abbrev s_law_asked : Stmt := top 143
abbrev s_law_take : Stmt := top 144
abbrev s_law_closed : Stmt := top 145
abbrev s_law : Stmt := top 146
def d_running_sums : He.DefD := ⟨("running_sums", none), "running_sums", "running_sums", defArgs s_running_sums, defBody s_running_sums, defScope s_running_sums, [], []⟩
def d_ends_well : He.DefD := ⟨("ends_well", none), "ends_well", "ends_well", defArgs s_ends_well, defBody s_ends_well, defScope s_ends_well, [], []⟩
def d_heights : He.DefD := ⟨("heights", none), "heights", "heights", defArgs s_heights, defBody s_heights, defScope s_heights, [], []⟩
def d_last_kind : He.DefD := ⟨("last_kind", none), "last_kind", "last_kind", defArgs s_last_kind, defBody s_last_kind, defScope s_last_kind, [], []⟩
def d_cutting_told : He.DefD := ⟨("cutting_told", none), "cutting_told", "cutting_told", defArgs s_cutting_told, defBody s_cutting_told, defScope s_cutting_told, [], []⟩
def d_best : He.DefD := ⟨("best", none), "best", "best", defArgs s_best, defBody s_best, defScope s_best, [], []⟩
def d_checked_roll : He.DefD := ⟨("checked_roll", none), "checked_roll", "checked_roll", defArgs s_checked_roll, defBody s_checked_roll, defScope s_checked_roll, [], []⟩
def d_steps_back : He.DefD := ⟨("steps_back", none), "steps_back", "steps_back", defArgs s_steps_back, defBody s_steps_back, defScope s_steps_back, [], []⟩
def d_meeting_place : He.DefD := ⟨("meeting_place", none), "meeting_place", "meeting_place", defArgs s_meeting_place, defBody s_meeting_place, defScope s_meeting_place, [], []⟩
def d_good_name : He.DefD := ⟨("good_name", none), "good_name", "good_name", defArgs s_good_name, defBody s_good_name, defScope s_good_name, [], []⟩
def d_good_kind : He.DefD := ⟨("good_kind", none), "good_kind", "good_kind", defArgs s_good_kind, defBody s_good_kind, defScope s_good_kind, [], []⟩
def d_fault : He.DefD := ⟨("fault", none), "fault", "fault", defArgs s_fault, defBody s_fault, defScope s_fault, [], []⟩
def d_show_cutting : He.DefD := ⟨("show_cutting", none), "show_cutting", "show_cutting", defArgs s_show_cutting, defBody s_show_cutting, defScope s_show_cutting, [], []⟩
def d_read_whole : He.DefD := ⟨("read_whole", none), "read_whole", "read_whole", defArgs s_read_whole, defBody s_read_whole, defScope s_read_whole, [], []⟩
def d_read_name : He.DefD := ⟨("read_name", none), "read_name", "read_name", defArgs s_read_name, defBody s_read_name, defScope s_read_name, [], []⟩
def d_read_numbers : He.DefD := ⟨("read_numbers", none), "read_numbers", "read_numbers", defArgs s_read_numbers, defBody s_read_numbers, defScope s_read_numbers, [], []⟩
def d_read_kind : He.DefD := ⟨("read_kind", none), "read_kind", "read_kind", defArgs s_read_kind, defBody s_read_kind, defScope s_read_kind, [], []⟩
def d_read_table : He.DefD := ⟨("read_table", none), "read_table", "read_table", defArgs s_read_table, defBody s_read_table, defScope s_read_table, [], []⟩
def d_read_roll : He.DefD := ⟨("read_roll", none), "read_roll", "read_roll", defArgs s_read_roll, defBody s_read_roll, defScope s_read_roll, [], []⟩
def d_read_line : He.DefD := ⟨("read_line", none), "read_line", "read_line", defArgs s_read_line, defBody s_read_line, defScope s_read_line, [], []⟩
def d_Feed_init : He.DefD := ⟨("Feed", some "__init__"), "__init__", "Feed.__init__", defArgs s_Feed_init, defBody s_Feed_init, defScope s_Feed_init, [], []⟩
def d_Feed_still_open : He.DefD := ⟨("Feed", some "still_open"), "still_open", "Feed.still_open", defArgs s_Feed_still_open, defBody s_Feed_still_open, defScope s_Feed_still_open, [], []⟩
def d_Feed_fresh : He.DefD := ⟨("Feed", some "fresh"), "fresh", "Feed.fresh", defArgs s_Feed_fresh, defBody s_Feed_fresh, defScope s_Feed_fresh, [], []⟩
def d_Feed_take : He.DefD := ⟨("Feed", some "take"), "take", "Feed.take", defArgs s_Feed_take, defBody s_Feed_take, defScope s_Feed_take, [], []⟩
def d_Feed_close : He.DefD := ⟨("Feed", some "close"), "close", "Feed.close", defArgs s_Feed_close, defBody s_Feed_close, defScope s_Feed_close, [], []⟩
def d_Feed_closed : He.DefD := ⟨("Feed", some "closed"), "closed", "Feed.closed", defArgs s_Feed_closed, defBody s_Feed_closed, defScope s_Feed_closed, [], []⟩
def d_Feed_cells : He.DefD := ⟨("Feed", some "cells"), "cells", "Feed.cells", defArgs s_Feed_cells, defBody s_Feed_cells, defScope s_Feed_cells, [], []⟩
def d_Feed_cutting : He.DefD := ⟨("Feed", some "cutting"), "cutting", "Feed.cutting", defArgs s_Feed_cutting, defBody s_Feed_cutting, defScope s_Feed_cutting, [], []⟩
def d_Feed_is_open : He.DefD := ⟨("Feed", some "is_open"), "is_open", "Feed.is_open", defArgs s_Feed_is_open, defBody s_Feed_is_open, defScope s_Feed_is_open, [], []⟩
def d_Feed_open_starts : He.DefD := ⟨("Feed", some "open_starts"), "open_starts", "Feed.open_starts", defArgs s_Feed_open_starts, defBody s_Feed_open_starts, defScope s_Feed_open_starts, [], []⟩
def d_Feed_settled : He.DefD := ⟨("Feed", some "settled"), "settled", "Feed.settled", defArgs s_Feed_settled, defBody s_Feed_settled, defScope s_Feed_settled, [], []⟩
def d_Feed_sure : He.DefD := ⟨("Feed", some "sure"), "sure", "Feed.sure", defArgs s_Feed_sure, defBody s_Feed_sure, defScope s_Feed_sure, [], []⟩
def d_Stock_init : He.DefD := ⟨("Stock", some "__init__"), "__init__", "Stock.__init__", defArgs s_Stock_init, defBody s_Stock_init, defScope s_Stock_init, [], []⟩
def d_Desk_init : He.DefD := ⟨("Desk", some "__init__"), "__init__", "Desk.__init__", defArgs s_Desk_init, defBody s_Desk_init, defScope s_Desk_init, [], []⟩
def d_Desk_say : He.DefD := ⟨("Desk", some "say"), "say", "Desk.say", defArgs s_Desk_say, defBody s_Desk_say, defScope s_Desk_say, [], []⟩
def d_Desk_begun_anew : He.DefD := ⟨("Desk", some "begun_anew"), "begun_anew", "Desk.begun_anew", defArgs s_Desk_begun_anew, defBody s_Desk_begun_anew, defScope s_Desk_begun_anew, [], []⟩
def d_Desk_feed_said : He.DefD := ⟨("Desk", some "feed_said"), "feed_said", "Desk.feed_said", defArgs s_Desk_feed_said, defBody s_Desk_feed_said, defScope s_Desk_feed_said, [], []⟩
def d_Desk_feed_lines : He.DefD := ⟨("Desk", some "feed_lines"), "feed_lines", "Desk.feed_lines", defArgs s_Desk_feed_lines, defBody s_Desk_feed_lines, defScope s_Desk_feed_lines, [], []⟩
def d_law_cell : He.DefD := ⟨("_law_cell", none), "_law_cell", "_law_cell", defArgs s_law_cell, defBody s_law_cell, defScope s_law_cell, [], []⟩
def d_law_mix : He.DefD := ⟨("_law_mix", none), "_law_mix", "_law_mix", defArgs s_law_mix, defBody s_law_mix, defScope s_law_mix, [], []⟩
def d_law_row : He.DefD := ⟨("_law_row", none), "_law_row", "_law_row", defArgs s_law_row, defBody s_law_row, defScope s_law_row, [], []⟩
def d_law_table : He.DefD := ⟨("_law_table", none), "_law_table", "_law_table", defArgs s_law_table, defBody s_law_table, defScope s_law_table, [], []⟩
def d_law_flaw : He.DefD := ⟨("_law_flaw", none), "_law_flaw", "_law_flaw", defArgs s_law_flaw, defBody s_law_flaw, defScope s_law_flaw, [], []⟩
def d_law_roll : He.DefD := ⟨("_law_roll", none), "_law_roll", "_law_roll", defArgs s_law_roll, defBody s_law_roll, defScope s_law_roll, [], []⟩
def d_law_drawn : He.DefD := ⟨("_law_drawn", none), "_law_drawn", "_law_drawn", defArgs s_law_drawn, defBody s_law_drawn, defScope s_law_drawn, [], []⟩
def d_law_sums : He.DefD := ⟨("_law_sums", none), "_law_sums", "_law_sums", defArgs s_law_sums, defBody s_law_sums, defScope s_law_sums, [], []⟩
def d_law_good : He.DefD := ⟨("_law_good", none), "_law_good", "_law_good", defArgs s_law_good, defBody s_law_good, defScope s_law_good, [], []⟩
def d_law_heights : He.DefD := ⟨("_law_heights", none), "_law_heights", "_law_heights", defArgs s_law_heights, defBody s_law_heights, defScope s_law_heights, [], []⟩
def d_law_back : He.DefD := ⟨("_law_back", none), "_law_back", "_law_back", defArgs s_law_back, defBody s_law_back, defScope s_law_back, [], []⟩
def d_law_cut : He.DefD := ⟨("_law_cut", none), "_law_cut", "_law_cut", defArgs s_law_cut, defBody s_law_cut, defScope s_law_cut, [], []⟩
def d_law_starts : He.DefD := ⟨("_law_starts", none), "_law_starts", "_law_starts", defArgs s_law_starts, defBody s_law_starts, defScope s_law_starts, [], []⟩
def d_law_stops : He.DefD := ⟨("_law_stops", none), "_law_stops", "_law_stops", defArgs s_law_stops, defBody s_law_stops, defScope s_law_stops, [], []⟩
def d_law_settled : He.DefD := ⟨("_law_settled", none), "_law_settled", "_law_settled", defArgs s_law_settled, defBody s_law_settled, defScope s_law_settled, [], []⟩
def d_law_line : He.DefD := ⟨("_law_line", none), "_law_line", "_law_line", defArgs s_law_line, defBody s_law_line, defScope s_law_line, [], []⟩
def d_law_table_line : He.DefD := ⟨("_law_table_line", none), "_law_table_line", "_law_table_line", defArgs s_law_table_line, defBody s_law_table_line, defScope s_law_table_line, [], []⟩
def d_law_cutting_line : He.DefD := ⟨("_law_cutting_line", none), "_law_cutting_line", "_law_cutting_line", defArgs s_law_cutting_line, defBody s_law_cutting_line, defScope s_law_cutting_line, [], []⟩
def d_law_said : He.DefD := ⟨("_law_said", none), "_law_said", "_law_said", defArgs s_law_said, defBody s_law_said, defScope s_law_said, [], []⟩
def d_law_sure : He.DefD := ⟨("_law_sure", none), "_law_sure", "_law_sure", defArgs s_law_sure, defBody s_law_sure, defScope s_law_sure, [], []⟩
def d_law_asked : He.DefD := ⟨("_law_asked", none), "_law_asked", "_law_asked", defArgs s_law_asked, defBody s_law_asked, defScope s_law_asked, [], []⟩
def d_law_take : He.DefD := ⟨("_law_take", none), "_law_take", "_law_take", defArgs s_law_take, defBody s_law_take, defScope s_law_take, [], []⟩
def d_law_closed : He.DefD := ⟨("_law_closed", none), "_law_closed", "_law_closed", defArgs s_law_closed, defBody s_law_closed, defScope s_law_closed, [], []⟩
def d_law : He.DefD := ⟨("law", none), "law", "law", defArgs s_law, defBody s_law, defScope s_law, [], []⟩
end Sv
namespace Sv.Hd
open PySem PySem.W PySem.Calls PyProof.Rows
abbrev RR : OpenRow := OpenLaw.row PySem.Challenge.rw_selvage_k98_whole_a_feed_by_lines
abbrev qv : Program := view RR.prog [146]
def names0 : List PySem.Str := ["_wall", "running_sums", "ends_well", "heights", "last_kind", "cutting_told", "best", "CutError", "NoKind", "NotARoll", "NoPlace", "TooLong", "TooMany", "NoFit", "NoParting", "Closed"]
def names1 : List PySem.Str := ["NotAnOrder", "TooBig", "Short", "Full", "NoRoll", "NoDeed", "NoLine", "best_ends", "ways_ahead", "best_count", "all_best", "MOST_CELLS_rolls", "HEAVIEST", "checked_roll", "spoilt", "turned"]
def names2 : List PySem.Str := ["steps_back", "meeting_place", "Feed", "heaviest_first", "cells_to_mend", "step_better", "rows_of", "mended_best", "LETTERS", "LONGEST_NAME", "MOST_KINDS", "WIDEST", "DEAREST", "good_name", "good_kind", "fault"]
def names3 : List PySem.Str := ["kind_of", "fits", "end_of", "kind_named", "checked_order", "states", "losses", "free_places", "sums_behind", "best_parting", "prices", "heights_behind", "forced_worth", "loss", "two_greatest", "runner_up"]
def names4 : List PySem.Str := ["MOST_CELLS_filling", "MOST_STATES", "one_more", "cuts_of", "taken_off", "behind_roll", "ask_bounds", "all_reached", "copied_plan", "fill", "MOST_STANDING", "MOST_SERVING", "Stock", "FIGURES", "MOST_FIGURES", "show_numbers"]
def names5 : List PySem.Str := ["show_cutting", "read_whole", "read_name", "read_numbers", "read_kind", "read_table", "MOST_FEEDS", "MOST_LISTED", "SHORT_ROLL", "ROLL_WORDS", "NUMBER_ROLL_WORDS", "NAME_WORDS", "LONE_WORDS", "read_roll", "read_bounded_roll", "read_order"]
def names6 : List PySem.Str := ["read_bounded", "read_serve", "read_line", "read_first", "stage_word", "stock_word", "roll_lines", "serve_lines", "Desk", "_law_cell", "_law_mix", "_law_row", "_law_table", "_law_flaw", "_law_roll", "_law_drawn"]
def names7 : List PySem.Str := ["_law_sums", "_law_good", "_law_heights", "_law_back", "_law_cut", "_law_starts", "_law_stops", "_law_settled", "_law_line", "_law_table_line", "_law_cutting_line", "_law_said", "_law_sure", "_law_asked", "_law_take", "_law_closed"]
def names : List PySem.Str := names0 ++ names1 ++ names2 ++ names3 ++ names4 ++ names5 ++ names6 ++ names7
def fa0 : List He.Fa := [.glo "running_sums", .glo "ends_well", .glo "heights", .glo "last_kind", .glo "cutting_told", .glo "best", .glo "checked_roll", .glo "steps_back", .glo "meeting_place", .glo "good_name", .glo "good_kind", .glo "fault", .glo "show_cutting", .glo "read_whole", .glo "read_name", .glo "read_numbers", .glo "read_kind", .glo "read_table", .glo "read_roll", .glo "read_line"]
def fa1 : List He.Fa := [.glo "_law_cell", .glo "_law_mix", .glo "_law_row", .glo "_law_table", .glo "_law_flaw", .glo "_law_roll", .glo "_law_drawn", .glo "_law_sums", .glo "_law_good", .glo "_law_heights", .glo "_law_back", .glo "_law_cut", .glo "_law_starts", .glo "_law_stops", .glo "_law_settled", .glo "_law_line", .glo "_law_table_line", .glo "_law_cutting_line", .glo "_law_said", .glo "_law_sure"]
def fa2 : List He.Fa := [.glo "_law_asked", .glo "_law_take", .glo "_law_closed", .glo "law", .glo "Feed", .glo "Stock", .glo "Desk", .glo "ROLL_WORDS", .glo "NUMBER_ROLL_WORDS", .glo "NAME_WORDS", .glo "LONE_WORDS", .free "len", .free "range", .free "max", .free "min", .free "any", .free "all", .free "str", .free "int", .free "list"]
def fa3 : List He.Fa := [.free "enumerate", .free "isinstance", .int "MOST_CELLS_rolls" 200, .int "HEAVIEST" 1000000000000000000, .int "LONGEST_NAME" 8, .int "MOST_KINDS" 8, .int "WIDEST" 200, .int "DEAREST" 1000000000000000000, .int "MOST_FIGURES" 20, .int "MOST_FEEDS" 12, .str "LETTERS" "abcdefghijklmnopqrstuvwxyz", .str "FIGURES" "0123456789", .cls "Feed", .mkr "Feed", .noat "Feed" "table", .noat "Feed" "came", .noat "Feed" "known", .noat "Feed" "ended", .cls "Stock", .mkr "Stock"]
def fa4 : List He.Fa := [.noat "Stock" "kinds", .noat "Stock" "shortest", .noat "Stock" "stands", .noat "Stock" "coming", .noat "Stock" "gained", .noat "Stock" "parts", .noat "Stock" "behind", .noat "Stock" "ahead", .cls "Desk", .mkr "Desk", .noat "Desk" "kinds", .noat "Desk" "store", .noat "Desk" "feeds", .noat "Desk" "tellings", .noat "Desk" "undone", .meth "Feed" "still_open", .meth "Feed" "fresh", .meth "Feed" "take", .meth "Feed" "close", .meth "Feed" "closed"]
def fa5 : List He.Fa := [.meth "Feed" "cells", .meth "Feed" "cutting", .meth "Feed" "is_open", .meth "Feed" "open_starts", .meth "Feed" "settled", .meth "Feed" "sure", .meth "Desk" "say", .meth "Desk" "begun_anew", .meth "Desk" "feed_said", .meth "Desk" "feed_lines"]
def fa : List He.Fa := fa0 ++ fa1 ++ fa2 ++ fa3 ++ fa4 ++ fa5
def fn0 : List He.DefD := [d_running_sums, d_ends_well, d_heights, d_last_kind, d_cutting_told, d_best, d_checked_roll, d_steps_back, d_meeting_place, d_good_name, d_good_kind, d_fault, d_show_cutting, d_read_whole, d_read_name, d_read_numbers]
def fn1 : List He.DefD := [d_read_kind, d_read_table, d_read_roll, d_read_line, d_Feed_init, d_Feed_still_open, d_Feed_fresh, d_Feed_take, d_Feed_close, d_Feed_closed, d_Feed_cells, d_Feed_cutting, d_Feed_is_open, d_Feed_open_starts, d_Feed_settled, d_Feed_sure]
def fn2 : List He.DefD := [d_Stock_init, d_Desk_init, d_Desk_say, d_Desk_begun_anew, d_Desk_feed_said, d_Desk_feed_lines, d_law_cell, d_law_mix, d_law_row, d_law_table, d_law_flaw, d_law_roll, d_law_drawn, d_law_sums, d_law_good, d_law_heights]
def fn3 : List He.DefD := [d_law_back, d_law_cut, d_law_starts, d_law_stops, d_law_settled, d_law_line, d_law_table_line, d_law_cutting_line, d_law_said, d_law_sure, d_law_asked, d_law_take, d_law_closed, d_law]
def fn : List He.DefD := fn0 ++ fn1 ++ fn2 ++ fn3
def v_ROLL_WORDS : List He.Dv := [.str "best", .str "count", .str "second", .str "free", .str "lay"]
def v_NUMBER_ROLL_WORDS : List He.Dv := [.str "all", .str "parts", .str "mend"]
def v_NAME_WORDS : List He.Dv := [.str "begin", .str "close", .str "sure", .str "settled", .str "told", .str "drop"]
def v_LONE_WORDS : List He.Dv := [.str "back", .str "again", .str "stock", .str "total", .str "sums"]
def ex (K : PySem.W.Frag) : Bool := He.tupB K "ROLL_WORDS" v_ROLL_WORDS && He.tupB K "NUMBER_ROLL_WORDS" v_NUMBER_ROLL_WORDS && He.tupB K "NAME_WORDS" v_NAME_WORDS && He.tupB K "LONE_WORDS" v_LONE_WORDS
def obsS (K : PySem.W.Frag) : He.AlD × Bool := (He.obsD fa fn K, ex K)
def valS : He.AlD × Bool := (He.valD fn, true)
/-- the addresses that the facts lean on: the module's names, their codes, the classes' names, their codes -/
def valsAt (g : Addr → Option Obj) (a : Addr) : List Addr := match g a with
  | some ⟨_, _, .dict es _, _⟩ => es.toList.flatMap fun e => He.refV e.val
  | _ => []
def codeAt (g : Addr → Option Obj) (a : Addr) : List Addr := match g a with
  | some ⟨_, _, .func fd, _⟩ => He.refV fd.code
  | _ => []
def nsAt (g : Addr → Option Obj) (a : Addr) : List Addr := match g a with
  | some ⟨_, _, .cls cd, _⟩ => [cd.ns]
  | _ => []
def lev (g : Addr → Option Obj) : List Addr :=
  let l1 := valsAt g mainGlobals
  let l2 := l1.flatMap (nsAt g)
  let l3 := l2.flatMap (valsAt g)
  mainGlobals :: (l2 ++ (l3 ++ (l1 ++ (l1.flatMap (codeAt g) ++ l3.flatMap (codeAt g)))))
def obsSG (g : Addr → Option Obj) : He.AlD × Bool := obsS (He.frG g (lev g))
def hk : PySem.W.Hook where
  α := He.AlD × Bool
  obs := fun s => obsSG s.heap.get?
  val := fun _ => valS
  says := fun _ h => ∃ K : PySem.W.Frag, K.In h ∧ obsS K = valS
  of := fun _ _ e => ⟨_, He.frG_in, e⟩
  keeps := fun _ _ _ ⟨K, hK, c⟩ k => ⟨K, PySem.W.Frag.In.keeps hK k, c⟩
def ob (s : PySem.W.SharedT) : He.AlD × Bool := obsSG (HandSHeadRun.getT s)
theorem ob_eq (s : PySem.W.SharedT) : ob s = hk.obs s.abs := by
  have e : HandSHeadRun.getT s = s.abs.heap.get? := funext (HandSHeadRun.getT_eq s)
  show obsSG (HandSHeadRun.getT s) = obsSG s.abs.heap.get?
  rw [e]
/-- the state behind the top -/
noncomputable abbrev endS (w : World) (os : OsState) : Option SharedT := HandSHeadRun.endF (HandSHeadRun.stepQ (HandSHeadRun.denQ HandSHeadRun.tabQ) RR.prog w) 12000 RR.prog w os
theorem runA (w : World) (os : OsState) : (endS w os).map (fun s => (HandSHeadRun.looksF RR.prog (boot_heap w.params) s.abs, HandSHeadRun.seenQ qv names (importedModules RR.prog.main.body) (fun s => xlAt qv [] s && recOk RR.toRowW.records s) s.abs)) = some (true, openGood qv names) := by
  kernel_rfl
theorem runB (w : World) (os : OsState) : (endS w os).map (fun s => ((ob s).1.2, (ob s).2)) = some (fn.map He.DefD.val, true) := by
  kernel_rfl
theorem runC (w : World) (os : OsState) : (endS w os).map (fun s => (ob s).1.1) = some true := by
  kernel_rfl
theorem run (w : World) : HandSHeadRun.RunEq RR qv hk ob 12000 names w := by
  intro os
  have a := runA w os
  have b := runB w os
  have c := runC w os
  show (endS w os).map _ = _
  generalize endS w os = z at a b c ⊢
  cases z with
  | none => cases a
  | some s =>
    have a1 := Option.some.inj a
    have b1 := Option.some.inj b
    have c1 : (ob s).1.1 = true := Option.some.inj c
    have a2 := congrArg (fun p => p.1) a1
    have a3 := congrArg (fun p => p.2) a1
    have b2 := congrArg (fun p => p.1) b1
    have b3 := congrArg (fun p => p.2) b1
    have e : ob s = (((ob s).1.1, (ob s).1.2), (ob s).2) := rfl
    have a2' : HandSHeadRun.looksF RR.prog (boot_heap w.params) s.abs = true := a2
    have a3' : HandSHeadRun.seenQ qv names (importedModules RR.prog.main.body) (fun s => xlAt qv [] s && recOk RR.toRowW.records s) s.abs = openGood qv names := a3
    have b2' : (ob s).1.2 = fn.map He.DefD.val := b2
    have b3' : (ob s).2 = true := b3
    show some (HandSHeadRun.looksF RR.prog (boot_heap w.params) s.abs, HandSHeadRun.seenQ qv names (importedModules RR.prog.main.body) (fun s => xlAt qv [] s && recOk RR.toRowW.records s) s.abs, ob s) = some (true, openGood qv names, valS)
    rw [a2', a3', e, b2', b3', c1]
    exact rfl
end Sv.Hd
/-! Plain Lean: chains of stops, their meeting place. -/
namespace Sv
/-- the chain of stops of a place, by the step back b -/
def stops (b : Nat → Nat) : Nat → List Nat
  | 0 => [0]
  | e + 1 => if h : b (e + 1) < e + 1 then (e + 1) :: stops b (b (e + 1)) else [e + 1]
termination_by e => e
def meet (b : Nat → Nat) (x y : Nat) : Nat :=
  if x = y then x
  else if x > y then (if h : b x < x then meet b (b x) y else x)
  else (if h : b y < y then meet b x (b y) else y)
termination_by x + y
section
variable {b : Nat → Nat} (hb : ∀ e, 0 < e → b e < e)
include hb
theorem stops_succ (e : Nat) : stops b (e + 1) = (e + 1) :: stops b (b (e + 1)) := by
  rw [stops, dif_pos (hb (e + 1) (Nat.succ_pos e))]
theorem stops_pos {e : Nat} (h : 0 < e) : stops b e = e :: stops b (b e) := by
  obtain ⟨k, rfl⟩ : ∃ k, e = k + 1 := ⟨e - 1, by omega⟩
  exact stops_succ hb k
omit hb in
theorem stops_zero : stops b 0 = [0] := by rw [stops]
omit hb in
theorem self_mem_stops (e : Nat) : e ∈ stops b e := by
  cases e with
  | zero => rw [stops_zero]; exact List.mem_singleton.mpr rfl
  | succ e =>
    rw [stops]
    split
    · exact List.mem_cons_self
    · exact List.mem_singleton.mpr rfl
theorem zero_mem_stops (e : Nat) : 0 ∈ stops b e := by
  induction e using Nat.strongRecOn with
  | ind e ih =>
    by_cases h : 0 < e
    · rw [stops_pos hb h]
      exact List.mem_cons_of_mem _ (ih _ (hb e h))
    · have : e = 0 := by omega
      subst this
      exact self_mem_stops 0
theorem stops_le {e s : Nat} (h : s ∈ stops b e) : s ≤ e := by
  induction e using Nat.strongRecOn with
  | ind e ih =>
    by_cases h0 : 0 < e
    · rw [stops_pos hb h0] at h
      rcases List.mem_cons.mp h with rfl | h
      · exact Nat.le_refl _
      · exact Nat.le_of_lt (Nat.lt_of_le_of_lt (ih _ (hb e h0) h) (hb e h0))
    · have : e = 0 := by omega
      subst this
      rw [stops_zero] at h
      rw [List.mem_singleton.mp h]
      exact Nat.le_refl _
theorem stops_back {e s : Nat} (h : s ∈ stops b e) (hs : s ≠ e) : 0 < e ∧ s ∈ stops b (b e) := by
  have h0 : 0 < e := by
    have := stops_le hb h
    omega
  refine ⟨h0, ?_⟩
  rw [stops_pos hb h0] at h
  rcases List.mem_cons.mp h with rfl | h
  · exact absurd rfl hs
  · exact h
theorem stops_of_back {e s : Nat} (h0 : 0 < e) (h : s ∈ stops b (b e)) : s ∈ stops b e := by
  rw [stops_pos hb h0]
  exact List.mem_cons_of_mem _ h
theorem stops_nodup (e : Nat) : (stops b e).Nodup := by
  induction e using Nat.strongRecOn with
  | ind e ih =>
    by_cases h0 : 0 < e
    · rw [stops_pos hb h0]
      refine List.nodup_cons.mpr ⟨fun h => ?_, ih _ (hb e h0)⟩
      have := stops_le hb h
      have := hb e h0
      omega
    · have : e = 0 := by omega
      subst this
      rw [stops_zero]
      simp
/-- a stop's stops are the lower stops -/
theorem stops_trans {e s t : Nat} (h : s ∈ stops b e) (ht : t ∈ stops b s) : t ∈ stops b e := by
  induction e using Nat.strongRecOn with
  | ind e ih =>
    by_cases hs : s = e
    · rw [← hs]; exact ht
    · obtain ⟨h0, h1⟩ := stops_back hb h hs
      exact stops_of_back hb h0 (ih _ (hb e h0) h1)
theorem stops_lower {e s t : Nat} (h : s ∈ stops b e) (ht : t ∈ stops b e) (hle : t ≤ s) : t ∈ stops b s := by
  induction e using Nat.strongRecOn with
  | ind e ih =>
    by_cases hs : s = e
    · rw [hs]; exact ht
    · obtain ⟨h0, h1⟩ := stops_back hb h hs
      have hte : t ≠ e := by
        have := stops_le hb h
        omega
      exact ih _ (hb e h0) h1 (stops_back hb ht hte).2
theorem mem_stops_meet (x y s : Nat) : s ∈ stops b (meet b x y) ↔ s ∈ stops b x ∧ s ∈ stops b y := by
  generalize hn : x + y = n
  induction n using Nat.strongRecOn generalizing x y with
  | ind n ih =>
    rw [meet]
    by_cases h : x = y
    · rw [if_pos h, h]
      exact ⟨fun h => ⟨h, h⟩, fun h => h.1⟩
    · rw [if_neg h]
      by_cases h1 : x > y
      · have h2 := hb x (by omega)
        rw [if_pos h1, dif_pos h2, ih (b x + y) (by omega) (b x) y rfl]
        constructor
        · rintro ⟨p, q⟩
          exact ⟨stops_of_back hb (by omega) p, q⟩
        · rintro ⟨p, q⟩
          have := stops_le hb q
          exact ⟨(stops_back hb p (by omega)).2, q⟩
      · have h2 := hb y (by omega)
        rw [if_neg h1, dif_pos h2, ih (x + b y) (by omega) x (b y) rfl]
        constructor
        · rintro ⟨p, q⟩
          exact ⟨p, stops_of_back hb (by omega) q⟩
        · rintro ⟨p, q⟩
          have := stops_le hb p
          exact ⟨p, (stops_back hb q (by omega)).2⟩
theorem mem_stops_fold (l : List Nat) (x s : Nat) : s ∈ stops b (l.foldl (meet b) x) ↔ s ∈ stops b x ∧ ∀ o ∈ l, s ∈ stops b o := by
  induction l generalizing x with
  | nil => simp
  | cons o l ih =>
    rw [List.foldl_cons, ih, mem_stops_meet hb]
    simp only [List.mem_cons, forall_eq_or_imp, and_assoc]
theorem meet_le (x y : Nat) : meet b x y ≤ x ∧ meet b x y ≤ y :=
  let h := (mem_stops_meet hb x y (meet b x y)).mp (self_mem_stops _)
  ⟨stops_le hb h.1, stops_le hb h.2⟩
end
/-- two steps back that agree below a place have the same stops there -/
theorem stops_congr {b c : Nat → Nat} (hb : ∀ e, 0 < e → b e < e) (hc : ∀ e, 0 < e → c e < e) {n e : Nat} (h : ∀ j, j ≤ n → b j = c j) (he : e ≤ n) : stops b e = stops c e := by
  induction e using Nat.strongRecOn with
  | ind e ih =>
    by_cases h0 : 0 < e
    · have := hb e h0
      rw [stops_pos hb h0, stops_pos hc h0, ← h e he, ih _ (hb e h0) (by omega)]
    · have : e = 0 := by omega
      subst this
      rw [stops_zero, stops_zero]
end Sv
/-! Plain Lean: the best cutting, walks back, open starts, what is settled. -/
namespace Sv
structure Kind (α : Type) where
  name : α
  width : Nat
  worth : Int
  allowed : Int
deriving DecidableEq
section
variable {α : Type}
def sm (roll : List Int) (j : Nat) : Int := (roll.take j).sum
theorem sm_zero (roll : List Int) : sm roll 0 = 0 := rfl
theorem sm_succ {roll : List Int} {j : Nat} {c : Int} (h : roll[j]? = some c) : sm roll (j + 1) = sm roll j + c := by
  unfold sm
  obtain ⟨h1, h2⟩ := List.getElem?_eq_some_iff.mp h
  rw [List.take_succ_eq_append_getElem h1, List.sum_append, h2]
  simp
theorem sm_app {roll more : List Int} {j : Nat} (h : j ≤ roll.length) : sm (roll ++ more) j = sm roll j := by
  unfold sm
  rw [List.take_append_of_le_length h]
theorem sm_all (roll : List Int) : sm roll roll.length = roll.sum := by
  unfold sm
  rw [List.take_length]
theorem sm_push (roll : List Int) (c : Int) : sm (roll ++ [c]) (roll.length + 1) = sm roll roll.length + c := by
  rw [sm_all]
  have : roll.length + 1 = (roll ++ [c]).length := by simp
  rw [this, sm_all]
  simp
def good (roll : List Int) (k : Kind α) (e : Nat) : Bool :=
  decide (k.width ≤ e) && (decide (e ≤ roll.length) && decide (sm roll e - sm roll (e - k.width) ≤ k.allowed))
theorem good_iff {roll : List Int} {k : Kind α} {e : Nat} : good roll k e = true ↔ k.width ≤ e ∧ e ≤ roll.length ∧ sm roll e - sm roll (e - k.width) ≤ k.allowed := by
  unfold good
  simp
theorem good_app {roll more : List Int} {k : Kind α} {e : Nat} (h : e ≤ roll.length) : good (roll ++ more) k e = good roll k e := by
  rw [Bool.eq_iff_iff, good_iff, good_iff, sm_app h, sm_app (by omega)]
  have : e ≤ (roll ++ more).length := by simp; omega
  simp only [this, h, true_and]
/-- one more height, from those that are told -/
def hturn (roll : List Int) (t : List Int) (e : Nat) (g : Int) (k : Kind α) : Int :=
  if good roll k e = true then max g (t.getD (e - k.width) 0 + k.worth) else g
def hstep (roll : List Int) (tab : List (Kind α)) (t : List Int) (e : Nat) : Int := tab.foldl (hturn roll t e) (t.getD (e - 1) 0)
def hlist (roll : List Int) (tab : List (Kind α)) : Nat → List Int
  | 0 => [0]
  | e + 1 => hlist roll tab e ++ [hstep roll tab (hlist roll tab e) (e + 1)]
def hgt (roll : List Int) (tab : List (Kind α)) (e : Nat) : Int := (hlist roll tab e).getD e 0
theorem hlist_length (roll : List Int) (tab : List (Kind α)) (e : Nat) : (hlist roll tab e).length = e + 1 := by
  induction e with
  | zero => rfl
  | succ e ih => rw [hlist, List.length_append, ih]; rfl
theorem hlist_get {roll : List Int} {tab : List (Kind α)} {e j : Nat} (h : j ≤ e) : (hlist roll tab e)[j]? = some (hgt roll tab j) := by
  induction e with
  | zero =>
    have : j = 0 := by omega
    subst this
    rfl
  | succ e ih =>
    by_cases hj : j ≤ e
    · rw [hlist, List.getElem?_append_left (by rw [hlist_length]; omega)]
      exact ih hj
    · have : j = e + 1 := by omega
      subst this
      unfold hgt
      rw [List.getD_eq_getElem?_getD]
      cases q : (hlist roll tab (e + 1))[e + 1]? with
      | some x => rfl
      | none =>
        have := List.getElem?_eq_none_iff.mp q
        rw [hlist_length] at this
        omega
theorem hlist_getD {roll : List Int} {tab : List (Kind α)} {e j : Nat} (h : j ≤ e) : (hlist roll tab e).getD j 0 = hgt roll tab j := by
  rw [List.getD_eq_getElem?_getD, hlist_get h]
  rfl
theorem hgt_zero (roll : List Int) (tab : List (Kind α)) : hgt roll tab 0 = 0 := rfl
/-- all kinds have a width -/
def Wide (tab : List (Kind α)) : Prop := ∀ k ∈ tab, 1 ≤ k.width
def hturn' (roll : List Int) (tab : List (Kind α)) (e : Nat) (g : Int) (k : Kind α) : Int :=
  if good roll k e = true then max g (hgt roll tab (e - k.width) + k.worth) else g
theorem fold_congr {β γ : Type} {f g : β → γ → β} : ∀ {l : List γ} {x : β}, (∀ a, ∀ k ∈ l, f a k = g a k) → l.foldl f x = l.foldl g x
  | [], _, _ => rfl
  | k :: l, x, h => by
    rw [List.foldl_cons, List.foldl_cons, h x k List.mem_cons_self]
    exact fold_congr fun a k hk => h a k (List.mem_cons_of_mem _ hk)
theorem hgt_succ {roll : List Int} {tab : List (Kind α)} (W : Wide tab) (e : Nat) : hgt roll tab (e + 1) = tab.foldl (hturn' roll tab (e + 1)) (hgt roll tab e) := by
  have h1 : hgt roll tab (e + 1) = hstep roll tab (hlist roll tab e) (e + 1) := by
    unfold hgt
    rw [List.getD_eq_getElem?_getD, hlist, List.getElem?_append_right (by rw [hlist_length]; exact Nat.le_refl _), hlist_length]
    simp
  rw [h1]
  unfold hstep
  rw [show e + 1 - 1 = e from rfl, hlist_getD (Nat.le_refl e)]
  refine fold_congr fun a k hk => ?_
  unfold hturn hturn'
  by_cases hg : good roll k (e + 1) = true
  · have := W k hk
    rw [if_pos hg, if_pos hg, hlist_getD (by omega)]
  · rw [if_neg hg, if_neg hg]
theorem fold_ge {roll : List Int} {tab : List (Kind α)} {e : Nat} : ∀ {l : List (Kind α)} {x : Int}, x ≤ l.foldl (hturn' roll tab e) x
  | [], x => Int.le_refl _
  | k :: l, x => by
    rw [List.foldl_cons]
    refine Int.le_trans ?_ fold_ge
    unfold hturn'
    split <;> omega
theorem fold_up {roll : List Int} {tab : List (Kind α)} {e : Nat} : ∀ {l : List (Kind α)} {x : Int}, ∀ k ∈ l, good roll k e = true → hgt roll tab (e - k.width) + k.worth ≤ l.foldl (hturn' roll tab e) x
  | [], x, k, hk, _ => nomatch hk
  | c :: l, x, k, hk, hg => by
    rw [List.foldl_cons]
    rcases List.mem_cons.mp hk with rfl | hk
    · refine Int.le_trans ?_ fold_ge
      unfold hturn'
      rw [if_pos hg]
      omega
    · exact fold_up k hk hg
theorem fold_hit {roll : List Int} {tab : List (Kind α)} {e : Nat} : ∀ {l : List (Kind α)} {x : Int}, l.foldl (hturn' roll tab e) x = x ∨ ∃ k ∈ l, good roll k e = true ∧ hgt roll tab (e - k.width) + k.worth = l.foldl (hturn' roll tab e) x
  | [], x => Or.inl rfl
  | c :: l, x => by
    rw [List.foldl_cons]
    rcases fold_hit (l := l) (x := hturn' roll tab e x c) with h | ⟨k, hk, hg, he⟩
    · rw [h]
      unfold hturn'
      by_cases hg : good roll c e = true
      · rw [if_pos hg]
        by_cases hx : hgt roll tab (e - c.width) + c.worth ≤ x
        · exact Or.inl (by omega)
        · exact Or.inr ⟨c, List.mem_cons_self, hg, by omega⟩
      · rw [if_neg hg]
        exact Or.inl rfl
    · exact Or.inr ⟨k, List.mem_cons_of_mem _ hk, hg, he⟩
theorem hgt_mono {roll : List Int} {tab : List (Kind α)} (W : Wide tab) (e : Nat) : hgt roll tab e ≤ hgt roll tab (e + 1) := by
  rw [hgt_succ W]
  exact fold_ge
theorem hgt_mono' {roll : List Int} {tab : List (Kind α)} (W : Wide tab) {e j : Nat} (h : e ≤ j) : hgt roll tab e ≤ hgt roll tab j := by
  induction j with
  | zero =>
    have : e = 0 := by omega
    rw [this]
    exact Int.le_refl _
  | succ j ih =>
    by_cases q : e = j + 1
    · rw [q]
      exact Int.le_refl _
    · exact Int.le_trans (ih (by omega)) (hgt_mono W j)
theorem hgt_hit {roll : List Int} {tab : List (Kind α)} (W : Wide tab) {e : Nat} (h : hgt roll tab (e + 1) ≠ hgt roll tab e) : ∃ k ∈ tab, good roll k (e + 1) = true ∧ hgt roll tab (e + 1 - k.width) + k.worth = hgt roll tab (e + 1) := by
  rw [hgt_succ W] at h ⊢
  rcases fold_hit (roll := roll) (tab := tab) (e := e + 1) (l := tab) (x := hgt roll tab e) with q | q
  · exact absurd q h
  · exact q
theorem hgt_app {roll more : List Int} {tab : List (Kind α)} (W : Wide tab) {e : Nat} (h : e ≤ roll.length) : hgt (roll ++ more) tab e = hgt roll tab e := by
  induction e using Nat.strongRecOn with
  | ind e ih =>
    cases e with
    | zero => rfl
    | succ e =>
      rw [hgt_succ W, hgt_succ W, ih e (by omega) (by omega)]
      refine fold_congr fun a k hk => ?_
      unfold hturn'
      rw [good_app h]
      have := W k hk
      rw [ih (e + 1 - k.width) (by omega) (by omega)]
/-- the first kind that the told cutting of the first e cells ends with -/
def lastP (roll : List Int) (tab : List (Kind α)) (e : Nat) (k : Kind α) : Bool := good roll k e && decide (hgt roll tab (e - k.width) + k.worth = hgt roll tab e)
def lastK (roll : List Int) (tab : List (Kind α)) (e : Nat) : Option (Kind α) := tab.find? (lastP roll tab e)
theorem lastK_some {roll : List Int} {tab : List (Kind α)} (W : Wide tab) {e : Nat} (h : hgt roll tab (e + 1) ≠ hgt roll tab e) : ∃ k, lastK roll tab (e + 1) = some k ∧ k ∈ tab ∧ good roll k (e + 1) = true ∧ hgt roll tab (e + 1 - k.width) + k.worth = hgt roll tab (e + 1) := by
  obtain ⟨k, hk, hg, he⟩ := hgt_hit W h
  cases q : lastK roll tab (e + 1) with
  | none =>
    have := List.find?_eq_none.mp q k hk
    unfold lastP at this
    rw [hg, decide_eq_true he] at this
    exact absurd rfl this
  | some c =>
    have h1 := List.find?_some q
    unfold lastP at h1
    rw [Bool.and_eq_true, decide_eq_true_eq] at h1
    exact ⟨c, rfl, List.mem_of_find?_eq_some q, h1.1, h1.2⟩
theorem find_congr {β : Type} {p q : β → Bool} : ∀ {l : List β}, (∀ x ∈ l, p x = q x) → l.find? p = l.find? q
  | [], _ => rfl
  | x :: l, h => by
    rw [List.find?_cons, List.find?_cons, h x List.mem_cons_self, find_congr fun y hy => h y (List.mem_cons_of_mem _ hy)]
theorem lastK_app {roll more : List Int} {tab : List (Kind α)} (W : Wide tab) {e : Nat} (h : e ≤ roll.length) : lastK (roll ++ more) tab e = lastK roll tab e := by
  refine find_congr fun k hk => ?_
  unfold lastP
  rw [good_app h, hgt_app W h, hgt_app W (by omega)]
/-- one step back: the place, and the piece's name where there is one -/
def bk (roll : List Int) (tab : List (Kind α)) (e : Nat) : Nat × Option α :=
  if hgt roll tab e = hgt roll tab (e - 1) then (e - 1, none) else match lastK roll tab e with
    | some k => (e - k.width, some k.name)
    | none => (e - 1, none)
def back (roll : List Int) (tab : List (Kind α)) (e : Nat) : Nat := (bk roll tab e).1
theorem bk_same {roll : List Int} {tab : List (Kind α)} {e : Nat} (h : hgt roll tab (e + 1) = hgt roll tab e) : bk roll tab (e + 1) = (e, none) := by
  unfold bk
  rw [if_pos (by exact h)]
  rfl
theorem bk_kind {roll : List Int} {tab : List (Kind α)} {e : Nat} {k : Kind α} (h : hgt roll tab (e + 1) ≠ hgt roll tab e) (hk : lastK roll tab (e + 1) = some k) : bk roll tab (e + 1) = (e + 1 - k.width, some k.name) := by
  unfold bk
  rw [if_neg (by exact h), hk]
theorem back_lt {roll : List Int} {tab : List (Kind α)} (W : Wide tab) : ∀ e, 0 < e → back roll tab e < e := by
  intro e he
  obtain ⟨j, rfl⟩ : ∃ j, e = j + 1 := ⟨e - 1, by omega⟩
  unfold back
  by_cases h : hgt roll tab (j + 1) = hgt roll tab j
  · rw [bk_same h]
    exact Nat.lt_succ_self j
  · obtain ⟨k, hk, hm, _⟩ := lastK_some W h
    rw [bk_kind h hk]
    have := W k hm
    show j + 1 - k.width < j + 1
    omega
theorem bk_app {roll more : List Int} {tab : List (Kind α)} (W : Wide tab) {e : Nat} (h : e ≤ roll.length) : bk (roll ++ more) tab e = bk roll tab e := by
  unfold bk
  rw [hgt_app W h, hgt_app W (by omega), lastK_app W h]
def piece (p : Nat × Option α) : List (Nat × α) := match p.2 with
  | some n => [(p.1, n)]
  | none => []
/-- what the told cutting of the first e cells is -/
def cut (roll : List Int) (tab : List (Kind α)) : Nat → List (Nat × α)
  | 0 => []
  | e + 1 => if h : back roll tab (e + 1) < e + 1 then cut roll tab (back roll tab (e + 1)) ++ piece (bk roll tab (e + 1)) else []
termination_by e => e
theorem cut_zero (roll : List Int) (tab : List (Kind α)) : cut roll tab 0 = [] := by rw [cut]
theorem cut_pos {roll : List Int} {tab : List (Kind α)} (W : Wide tab) {e : Nat} (h : 0 < e) : cut roll tab e = cut roll tab (back roll tab e) ++ piece (bk roll tab e) := by
  obtain ⟨j, rfl⟩ : ∃ j, e = j + 1 := ⟨e - 1, by omega⟩
  rw [cut, dif_pos (back_lt W _ h)]
theorem cut_app {roll more : List Int} {tab : List (Kind α)} (W : Wide tab) {e : Nat} (h : e ≤ roll.length) : cut (roll ++ more) tab e = cut roll tab e := by
  induction e using Nat.strongRecOn with
  | ind e ih =>
    by_cases h0 : 0 < e
    · have q := back_lt (roll := roll) W e h0
      rw [cut_pos W h0, cut_pos W h0, bk_app W h]
      unfold back
      rw [bk_app W h]
      have q2 : (bk roll tab e).1 < e := q
      rw [ih _ q2 (by omega)]
    · have : e = 0 := by omega
      subst this
      rw [cut_zero, cut_zero]
/-- a stop's cutting begins the cutting -/
theorem cut_stop {roll : List Int} {tab : List (Kind α)} (W : Wide tab) {e s : Nat} (h : s ∈ stops (back roll tab) e) : cut roll tab s <+: cut roll tab e := by
  induction e using Nat.strongRecOn with
  | ind e ih =>
    by_cases hs : s = e
    · rw [hs]
      exact List.prefix_refl _
    · obtain ⟨h0, h1⟩ := stops_back (back_lt W) h hs
      rw [cut_pos W h0]
      exact (ih _ (back_lt W e h0) h1).trans (List.prefix_append _ _)
/-! ### open starts -/
def isOpen (roll : List Int) (tab : List (Kind α)) (i : Nat) (k : Kind α) : Bool :=
  decide (roll.length < i + k.width) && (decide (hgt roll tab roll.length < hgt roll tab i + k.worth) && decide (sm roll roll.length - sm roll i ≤ k.allowed))
theorem isOpen_iff {roll : List Int} {tab : List (Kind α)} {i : Nat} {k : Kind α} : isOpen roll tab i k = true ↔ roll.length < i + k.width ∧ hgt roll tab roll.length < hgt roll tab i + k.worth ∧ sm roll roll.length - sm roll i ≤ k.allowed := by
  unfold isOpen
  simp
def opens (roll : List Int) (tab : List (Kind α)) (m : Nat) : List Nat := (List.range m).filter fun i => tab.any (isOpen roll tab i)
def starts (roll : List Int) (tab : List (Kind α)) : List Nat := opens roll tab roll.length ++ [roll.length]
theorem mem_starts {roll : List Int} {tab : List (Kind α)} {i : Nat} : i ∈ starts roll tab ↔ i = roll.length ∨ (i < roll.length ∧ ∃ k ∈ tab, isOpen roll tab i k = true) := by
  unfold starts opens
  simp only [List.mem_append, List.mem_filter, List.mem_range, List.any_eq_true, List.mem_singleton]
  constructor
  · rintro (⟨a, b⟩ | a)
    · exact Or.inr ⟨a, b⟩
    · exact Or.inl a
  · rintro (a | ⟨a, b⟩)
    · exact Or.inr a
    · exact Or.inl ⟨a, b⟩
def settled (roll : List Int) (tab : List (Kind α)) : Nat := (starts roll tab).foldl (meet (back roll tab)) roll.length
def sure (roll : List Int) (tab : List (Kind α)) : List (Nat × α) := cut roll tab (settled roll tab)
def told (roll : List Int) (tab : List (Kind α)) : List (Nat × α) := cut roll tab roll.length
theorem len_mem_starts (roll : List Int) (tab : List (Kind α)) : roll.length ∈ starts roll tab := mem_starts.mpr (Or.inl rfl)
theorem mem_settled {roll : List Int} {tab : List (Kind α)} (W : Wide tab) (s : Nat) : s ∈ stops (back roll tab) (settled roll tab) ↔ ∀ i ∈ starts roll tab, s ∈ stops (back roll tab) i := by
  unfold settled
  rw [mem_stops_fold (back_lt W)]
  exact ⟨fun h => h.2, fun h => ⟨h _ (len_mem_starts _ _), h⟩⟩
theorem settled_stop {roll : List Int} {tab : List (Kind α)} (W : Wide tab) : settled roll tab ∈ stops (back roll tab) roll.length :=
  (mem_settled W _).mp (self_mem_stops _) _ (len_mem_starts _ _)
theorem settled_le {roll : List Int} {tab : List (Kind α)} (W : Wide tab) : settled roll tab ≤ roll.length := stops_le (back_lt W) (settled_stop W)
/-- the greatest place that all starts stop at -/
theorem settled_max {roll : List Int} {tab : List (Kind α)} (W : Wide tab) {s : Nat} (h : ∀ i ∈ starts roll tab, s ∈ stops (back roll tab) i) : s ≤ settled roll tab := stops_le (back_lt W) ((mem_settled W s).mpr h)
theorem sure_told {roll : List Int} {tab : List (Kind α)} (W : Wide tab) : sure roll tab <+: told roll tab := cut_stop W (settled_stop W)
/-! ### one cell more -/
theorem start_back {roll : List Int} {tab : List (Kind α)} (W : Wide tab) {c : Int} (hc : 0 ≤ c) {i : Nat} (h : i ∈ starts (roll ++ [c]) tab) : i ∈ starts roll tab ∨ (i = roll.length + 1 ∧ back (roll ++ [c]) tab i ∈ starts roll tab) := by
  have hl : (roll ++ [c]).length = roll.length + 1 := by simp
  rcases mem_starts.mp h with rfl | ⟨hi, k, hk, ho⟩
  · refine Or.inr ⟨hl, ?_⟩
    rw [hl]
    by_cases q : hgt (roll ++ [c]) tab (roll.length + 1) = hgt (roll ++ [c]) tab roll.length
    · unfold back
      rw [bk_same q]
      exact len_mem_starts _ _
    · obtain ⟨k, hk, hm, hg, he⟩ := lastK_some W q
      unfold back
      rw [bk_kind q hk]
      show roll.length + 1 - k.width ∈ starts roll tab
      have hw := W k hm
      obtain ⟨g1, g2, g3⟩ := good_iff.mp hg
      by_cases z : roll.length + 1 - k.width = roll.length
      · rw [z]
        exact len_mem_starts _ _
      · refine mem_starts.mpr (Or.inr ⟨by omega, k, hm, isOpen_iff.mpr ⟨by omega, ?_, ?_⟩⟩)
        · have m := hgt_mono (roll := roll ++ [c]) W roll.length
          have e1 : hgt (roll ++ [c]) tab roll.length = hgt roll tab roll.length := hgt_app W (Nat.le_refl _)
          have e2 : hgt (roll ++ [c]) tab (roll.length + 1 - k.width) = hgt roll tab (roll.length + 1 - k.width) := hgt_app W (by omega)
          omega
        · have e1 : sm (roll ++ [c]) (roll.length + 1 - k.width) = sm roll (roll.length + 1 - k.width) := sm_app (by omega)
          have e2 := sm_push roll c
          omega
  · obtain ⟨o1, o2, o3⟩ := isOpen_iff.mp ho
    rw [hl] at hi o1 o2 o3
    refine Or.inl (mem_starts.mpr ?_)
    by_cases z : i = roll.length
    · exact Or.inl z
    · refine Or.inr ⟨by omega, k, hk, isOpen_iff.mpr ⟨by omega, ?_, ?_⟩⟩
      · have m := hgt_mono (roll := roll ++ [c]) W roll.length
        have e1 : hgt (roll ++ [c]) tab roll.length = hgt roll tab roll.length := hgt_app W (Nat.le_refl _)
        have e2 : hgt (roll ++ [c]) tab i = hgt roll tab i := hgt_app W (by omega)
        omega
      · have e1 : sm (roll ++ [c]) i = sm roll i := sm_app (by omega)
        have e2 := sm_push roll c
        omega
theorem stops_app {roll more : List Int} {tab : List (Kind α)} (W : Wide tab) {e : Nat} (he : e ≤ roll.length) : stops (back (roll ++ more) tab) e = stops (back roll tab) e :=
  stops_congr (back_lt W) (back_lt W) (n := roll.length) (fun j hj => by unfold back; rw [bk_app W hj]) he
theorem settled_step {roll : List Int} {tab : List (Kind α)} (W : Wide tab) {c : Int} (hc : 0 ≤ c) : settled roll tab ∈ stops (back (roll ++ [c]) tab) (settled (roll ++ [c]) tab) := by
  rw [mem_settled W]
  intro i hi
  have key : ∀ j ∈ starts roll tab, settled roll tab ∈ stops (back (roll ++ [c]) tab) j := fun j hj => by
    have hj2 : j ≤ roll.length := by
      rcases mem_starts.mp hj with q | q
      · omega
      · omega
    rw [stops_app W hj2]
    exact (mem_settled W _).mp (self_mem_stops _) j hj
  rcases start_back W hc hi with h | ⟨h1, h2⟩
  · exact key i h
  · exact stops_of_back (back_lt W) (by omega) (key _ h2)
theorem sure_step {roll : List Int} {tab : List (Kind α)} (W : Wide tab) {c : Int} (hc : 0 ≤ c) : sure roll tab <+: sure (roll ++ [c]) tab := by
  have h := cut_stop W (settled_step (roll := roll) W hc)
  rw [cut_app W (settled_le W)] at h
  exact h
theorem sure_more {tab : List (Kind α)} (W : Wide tab) : ∀ {more roll : List Int}, (∀ c ∈ more, 0 ≤ c) → sure roll tab <+: sure (roll ++ more) tab
  | [], roll, _ => by rw [List.append_nil]; exact List.prefix_refl _
  | c :: more, roll, h => by
    have h1 := sure_step (roll := roll) W (h c List.mem_cons_self)
    have h2 := sure_more (more := more) (roll := roll ++ [c]) W fun d hd => h d (List.mem_cons_of_mem _ hd)
    rw [List.append_assoc] at h2
    exact h1.trans h2
/-! ### what takes tell, one behind the other -/
def newly (roll : List Int) (tab : List (Kind α)) (c : Int) : List (Nat × α) := (sure (roll ++ [c]) tab).drop (sure roll tab).length
def newlies (tab : List (Kind α)) : List Int → List Int → List (Nat × α)
  | _, [] => []
  | roll, c :: more => newly roll tab c ++ newlies tab (roll ++ [c]) more
theorem drop_prefix {β : Type} {a b c : List β} (h1 : a <+: b) (h2 : b <+: c) : b.drop a.length ++ c.drop b.length = c.drop a.length := by
  obtain ⟨x, rfl⟩ := h1
  obtain ⟨y, rfl⟩ := h2
  simp
theorem newlies_eq {tab : List (Kind α)} (W : Wide tab) : ∀ {more roll : List Int}, (∀ c ∈ more, 0 ≤ c) → newlies tab roll more = (sure (roll ++ more) tab).drop (sure roll tab).length
  | [], roll, _ => by
    rw [newlies, List.append_nil, List.drop_length]
  | c :: more, roll, h => by
    have h1 := sure_step (roll := roll) W (h c List.mem_cons_self)
    have h2 := sure_more (more := more) (roll := roll ++ [c]) W fun d hd => h d (List.mem_cons_of_mem _ hd)
    rw [newlies, newlies_eq W fun d hd => h d (List.mem_cons_of_mem _ hd)]
    unfold newly
    rw [drop_prefix h1 h2, List.append_assoc]
    rfl
theorem newlies_take {tab : List (Kind α)} {roll : List Int} : ∀ {more : List Int} {i : Nat} {c : Int}, more[i]? = some c → newlies tab roll (more.take (i + 1)) = newlies tab roll (more.take i) ++ newly (roll ++ more.take i) tab c := by
  intro more
  induction more generalizing roll with
  | nil => intro i c h; simp at h
  | cons d more ih =>
    intro i c h
    cases i with
    | zero =>
      have e : d = c := Option.some.inj h
      subst e
      simp [newlies]
    | succ i =>
      have q := ih (roll := roll ++ [d]) (i := i) (c := c) (by simpa using h)
      rw [List.take_succ_cons, newlies, q, List.take_succ_cons, newlies, List.append_assoc, List.append_assoc]
      rfl
end
end Sv
namespace Sv
open PySem PySem.Spec PyProof.Rows L2
/-- the def at f keeps its promise, wherever k rooms are left -/
def Ok (P : Program) (w : World) (K : PySem.W.Frag) (mg : Str → Option Value) (base : Heap) (k : Nat) (f : Addr) (ps : List Str) (sp : Sp) : Prop :=
  ∃ fd, FnOk P w K mg base CX0 k f fd ps sp ∧ Binds K fd ps [] ∧ PySem.W.keepIn K (.ref f) = true
theorem Ok.mono {P : Program} {w : World} {K : PySem.W.Frag} {mg : Str → Option Value} {base : Heap} {j k : Nat} {f : Addr} {ps : List Str} {sp : Sp} (h : Ok P w K mg base j f ps sp) (hjk : j ≤ k) : Ok P w K mg base k f ps sp := by
  obtain ⟨fd, F, b, kp⟩ := h
  exact ⟨fd, F.mono hjk, b, kp⟩
abbrev FnP (K : PySem.W.Frag) (d : He.DefD) (f : Addr) (fd : FuncData) : Prop := FunD K d.name d.qual d.params d.body d.scope [] [] f fd
theorem call_str_any {X : Cx} : CallR X (.type "str") (fun xs H Q => (∃ i, xs = [.int i] ∧ i.natAbs.log2 < 1920 ∧ Q (.str (toString i)) H) ∨ ∃ a, xs = [.str a] ∧ Q (.str a) H) := by
  intro pins s σ H vs us Q I r h
  rcases h with h | h
  · exact call_str_int pins s σ H vs us Q I r h
  · exact SkE.call_str_str pins s σ H vs us Q I r h
section
variable {X : Cx} {K : PySem.W.Frag}
theorem ix_listK (h : X.K = K := by rfl) : IxR X (rIxL K) := h ▸ ix_list
theorem ix_tupK (h : X.K = K := by rfl) : IxR X (rIxT K) := h ▸ ix_tup
theorem sl_listK (h : X.K = K := by rfl) : SlR X (rSlL K) := h ▸ sl_list
theorem op_in_seqK (h : X.K = K := by rfl) : OpR X (compareOp .In) (rIn K false) := h ▸ op_in_seq
theorem op_notIn_seqK (h : X.K = K := by rfl) : OpR X (compareOp .NotIn) (rIn K true) := h ▸ op_notIn_seq
def rJoin (K : PySem.W.Frag) : V → List V → Hp → VK → Prop := fun x xs H Q => ∃ a p, ∃ ys : List Str, x = .str a ∧ xs = [.ref p] ∧ (SqL K H p (ys.map V.str) ∨ SqT K H p (ys.map V.str)) ∧
  (ys.map (·.length)).sum + ys.length * a.length ≤ 16777216 ∧ Q (.str (Txt.join a ys)) H
theorem pe_joinK {o e : Expr} {to te : TE} {apos pos : Pos} (ho : PE X o to) (he : PE X e te) (h : X.K = K := by rfl) (hs : starEach [e] X.env = [(false, eval e X.env)] := by rfl) (hbase : attributeBase o "join" X.env (eval o X.env) = eval o X.env := by rfl) (hline : (apos.endLine == pos.line) = true := by rfl) :
    PE X (.Call (.Attribute o "join" apos) [e] [] pos) (tM1 (rJoin K) to te) := by
  subst h
  exact pe_join ho he hs hbase hline
theorem pi_listK {tg l : Expr} {tl : TE} (hl : PE X l tl) (h : X.K = K := by rfl) : PI X tg l (iList K tl) := h ▸ pi_list hl
theorem pi_tupK {tg l : Expr} {tl : TE} (hl : PE X l tl) (h : X.K = K := by rfl) : PI X tg l (iTup K tl) := h ▸ pi_tup hl
theorem pi_enumK {e : Expr} {ta : TA} {p pos tpos : Pos} {elts : List Expr} {kk : Nat} (hg : Gl X "enumerate") (hm : X.mg "enumerate" = none) (ha : PA X [e] ta) (h : X.K = K := by rfl) (hs : starEach [e] X.env = [(false, eval e X.env)] := by rfl) :
    PI X (.Tuple elts kk tpos) (.Call (.Name "enumerate" p) [e] [] pos) (iEnum K ta) := by
  subst h
  exact pi_enum hg hm ha hs
theorem pe_revLK {e : Expr} {te : TE} {k : Nat} {p1 p2 p3 pos : Pos} (he : PE X e te) (h : X.K = K := by rfl) : PE X (.Subscript e (.Slice none none (some (.UnaryOp .USub (.Constant (.int 1) k p1) p2)) p3) pos) (tRevL K te) := h ▸ pe_revL he
theorem call_listK (h : X.K = K := by rfl) : CallR X (.type "list") (Evl.rListS K) := h ▸ call_list_of
theorem cr_anyK (hc : X.calm = true) (h : X.K = K := by rfl) : CallR X (.builtin "any") (rAny K) := h ▸ cr_any hc
theorem cr_allK (hc : X.calm = true) (h : X.K = K := by rfl) : CallR X (.builtin "all") (rAll K) := h ▸ cr_all hc
theorem cr_maxK (hc : X.calm = true) (h : X.K = K := by rfl) : CallR X (.builtin "max") (rMax K) := h ▸ cr_max hc
theorem call_isiK (h : X.K = K := by rfl) : CallR X (.builtin "isinstance") (rIsi K) := h ▸ call_isi
theorem pe_fldK {e : Expr} {f : Str} {ta : TE} {pos : Pos} (he : PE X e ta) (hb : attributeBase e f X.env (eval e X.env) = eval e X.env) (h : X.K = K := by rfl) : PE X (.Attribute e f pos) (tFld K ta f) := h ▸ pe_fld he hb
theorem ps_fldK {o value : Expr} {f : Str} {ta tv : TE} {pos pos' : Pos} (ha : PE X o ta) (hv : PE X value tv) (hs : swapsWith value (some (.Attribute o f pos')) pos.line X.env = pure false) (h : X.K = K := by rfl) : PS X (.Assign [.Attribute o f pos'] value pos) (sFld K ta tv f) := h ▸ ps_fld ha hv hs
theorem op_eqDK (hu : X.A.units + 64 < cLine) (h : X.K = K := by rfl) : OpR X (compareOp .Eq) (rEqD K) := h ▸ op_eqD hu
theorem op_neDK (hu : X.A.units + 64 < cLine) (h : X.K = K := by rfl) : OpR X (compareOp .NotEq) (rNeD K) := h ▸ op_neD hu
theorem pg_unlK {es : List Expr} {k : Nat} {t : TGs} {n : Nat} {pos : Pos} (hc : X.calm = true) (hg : PGs X es t) (h : X.K = K := by rfl)
    (hn : (assignEach es X.env).length = n := by rfl) (hst : (assignEach es X.env).findIdx? (·.1) = none := by rfl) : PG X (.Tuple es k pos) (gUnl K n t) := h ▸ pg_unl hc hg hn hst
theorem pg_tupK {es : List Expr} {k : Nat} {t : TGs} {n : Nat} {pos : Pos} (hc : X.calm = true) (hg : PGs X es t) (h : X.K = K := by rfl)
    (hn : (assignEach es X.env).length = n := by rfl) (hst : (assignEach es X.env).findIdx? (·.1) = none := by rfl) : PG X (.Tuple es k pos) (gTup K n t) := h ▸ pg_tup hc hg hn hst
theorem pe_bmK {o e : Expr} {es : List Expr} {to : TE} {t : TA} {name : Str} {apos cpos : Pos} {T id : String} {r : V → List V → Hp → VK → Prop} (pa : PlainAttrs T) (slot : Slot T name id) (hty : typeOf (.builtin id) = pure (.type "method_descriptor")) (hm : MtR X id r) (ho : PE X o to) (ha : PA X (e :: es) t) (h : X.K = K := by rfl)
    (hbase : attributeBase o name X.env (eval o X.env) = eval o X.env := by rfl)
    (hfew : ((backTo cpos (starEach (e :: es) X.env)).all (fun x => !x.1) && (backToKw cpos (keywordEach [] X.env)).all (fun x => x.1.isSome)
      && decide ((e :: es).length + ([] : List Keyword).length + (if ([] : List Keyword).isEmpty then 0 else 1) < 30)) = true := by rfl)
    (hline : (apos.endLine == cpos.line) = true := by rfl) (hs : starEach (e :: es) X.env = (false, eval e X.env) :: starEach es X.env := by rfl) (hplain : (backTo cpos (starEach es X.env)).any (·.1) = false := by rfl) :
    PE X (.Call (.Attribute o name apos) (e :: es) [] cpos) (tBM K T r to t) := by
  subst h
  exact pe_bm pa slot hty hm ho ha hbase hfew hline hs hplain
def rSplit : V → List V → Hp → VK → Prop := fun x xs H Q => ∃ a b, x = .str a ∧ xs = [.str b] ∧ (b.length == 0) = false ∧ a.length + 2 ≤ sizeLine ∧ rNewStrs (Txt.split a b) H Q
theorem pe_splitN {o e : Expr} {to te : TE} {apos pos : Pos} (ho : PE X o to) (he : PE X e te) (hs : starEach [e] X.env = [(false, eval e X.env)] := by rfl) (hbase : attributeBase o "split" X.env (eval o X.env) = eval o X.env := by rfl) (hline : (apos.endLine == pos.line) = true := by rfl) :
    PE X (.Call (.Attribute o "split" apos) [e] [] pos) (tM1 rSplit to te) := pe_split ho he hs hbase hline
theorem call_lenK (h : X.K = K := by rfl) : CallR X (.builtin "len") (Evl.rLenS K) := h ▸ call_len_seq
end
def lcScope : List Stmt → Scope
  | [_, .Return (some (.Call _ [.ListComp _ _ sc _] _ _)) _] => sc
  | _ => { kind := .function, names := [], isGenerator := false, isCoroutine := false }
structure Top (K : PySem.W.Frag) (mg : Str → Option Value) : Prop where
  g_running_sums : mg "running_sums" = some (.ref (He.ga K "running_sums"))
  g_ends_well : mg "ends_well" = some (.ref (He.ga K "ends_well"))
  g_heights : mg "heights" = some (.ref (He.ga K "heights"))
  g_last_kind : mg "last_kind" = some (.ref (He.ga K "last_kind"))
  g_cutting_told : mg "cutting_told" = some (.ref (He.ga K "cutting_told"))
  g_best : mg "best" = some (.ref (He.ga K "best"))
  g_checked_roll : mg "checked_roll" = some (.ref (He.ga K "checked_roll"))
  g_steps_back : mg "steps_back" = some (.ref (He.ga K "steps_back"))
  g_meeting_place : mg "meeting_place" = some (.ref (He.ga K "meeting_place"))
  g_good_name : mg "good_name" = some (.ref (He.ga K "good_name"))
  g_good_kind : mg "good_kind" = some (.ref (He.ga K "good_kind"))
  g_fault : mg "fault" = some (.ref (He.ga K "fault"))
  g_show_cutting : mg "show_cutting" = some (.ref (He.ga K "show_cutting"))
  g_read_whole : mg "read_whole" = some (.ref (He.ga K "read_whole"))
  g_read_name : mg "read_name" = some (.ref (He.ga K "read_name"))
  g_read_numbers : mg "read_numbers" = some (.ref (He.ga K "read_numbers"))
  g_read_kind : mg "read_kind" = some (.ref (He.ga K "read_kind"))
  g_read_table : mg "read_table" = some (.ref (He.ga K "read_table"))
  g_read_roll : mg "read_roll" = some (.ref (He.ga K "read_roll"))
  g_read_line : mg "read_line" = some (.ref (He.ga K "read_line"))
  g_law_cell : mg "_law_cell" = some (.ref (He.ga K "_law_cell"))
  g_law_mix : mg "_law_mix" = some (.ref (He.ga K "_law_mix"))
  g_law_row : mg "_law_row" = some (.ref (He.ga K "_law_row"))
  g_law_table : mg "_law_table" = some (.ref (He.ga K "_law_table"))
  g_law_flaw : mg "_law_flaw" = some (.ref (He.ga K "_law_flaw"))
  g_law_roll : mg "_law_roll" = some (.ref (He.ga K "_law_roll"))
  g_law_drawn : mg "_law_drawn" = some (.ref (He.ga K "_law_drawn"))
  g_law_sums : mg "_law_sums" = some (.ref (He.ga K "_law_sums"))
  g_law_good : mg "_law_good" = some (.ref (He.ga K "_law_good"))
  g_law_heights : mg "_law_heights" = some (.ref (He.ga K "_law_heights"))
  g_law_back : mg "_law_back" = some (.ref (He.ga K "_law_back"))
  g_law_cut : mg "_law_cut" = some (.ref (He.ga K "_law_cut"))
  g_law_starts : mg "_law_starts" = some (.ref (He.ga K "_law_starts"))
  g_law_stops : mg "_law_stops" = some (.ref (He.ga K "_law_stops"))
  g_law_settled : mg "_law_settled" = some (.ref (He.ga K "_law_settled"))
  g_law_line : mg "_law_line" = some (.ref (He.ga K "_law_line"))
  g_law_table_line : mg "_law_table_line" = some (.ref (He.ga K "_law_table_line"))
  g_law_cutting_line : mg "_law_cutting_line" = some (.ref (He.ga K "_law_cutting_line"))
  g_law_said : mg "_law_said" = some (.ref (He.ga K "_law_said"))
  g_law_sure : mg "_law_sure" = some (.ref (He.ga K "_law_sure"))
  g_law_asked : mg "_law_asked" = some (.ref (He.ga K "_law_asked"))
  g_law_take : mg "_law_take" = some (.ref (He.ga K "_law_take"))
  g_law_closed : mg "_law_closed" = some (.ref (He.ga K "_law_closed"))
  g_law : mg "law" = some (.ref (He.ga K "law"))
  g_Feed : mg "Feed" = some (.ref (He.ga K "Feed"))
  g_Stock : mg "Stock" = some (.ref (He.ga K "Stock"))
  g_Desk : mg "Desk" = some (.ref (He.ga K "Desk"))
  g_ROLL_WORDS : mg "ROLL_WORDS" = some (.ref (He.ga K "ROLL_WORDS"))
  g_NUMBER_ROLL_WORDS : mg "NUMBER_ROLL_WORDS" = some (.ref (He.ga K "NUMBER_ROLL_WORDS"))
  g_NAME_WORDS : mg "NAME_WORDS" = some (.ref (He.ga K "NAME_WORDS"))
  g_LONE_WORDS : mg "LONE_WORDS" = some (.ref (He.ga K "LONE_WORDS"))
  f_len : mg "len" = none
  f_range : mg "range" = none
  f_max : mg "max" = none
  f_min : mg "min" = none
  f_any : mg "any" = none
  f_all : mg "all" = none
  f_str : mg "str" = none
  f_int : mg "int" = none
  f_list : mg "list" = none
  f_enumerate : mg "enumerate" = none
  f_isinstance : mg "isinstance" = none
  c_MOST_CELLS_rolls : ∃ t, mg "MOST_CELLS_rolls" = some (.int 200 t)
  c_HEAVIEST : ∃ t, mg "HEAVIEST" = some (.int 1000000000000000000 t)
  c_LONGEST_NAME : ∃ t, mg "LONGEST_NAME" = some (.int 8 t)
  c_MOST_KINDS : ∃ t, mg "MOST_KINDS" = some (.int 8 t)
  c_WIDEST : ∃ t, mg "WIDEST" = some (.int 200 t)
  c_DEAREST : ∃ t, mg "DEAREST" = some (.int 1000000000000000000 t)
  c_MOST_FIGURES : ∃ t, mg "MOST_FIGURES" = some (.int 20 t)
  c_MOST_FEEDS : ∃ t, mg "MOST_FEEDS" = some (.int 12 t)
  c_LETTERS : ∃ t, mg "LETTERS" = some (.str "abcdefghijklmnopqrstuvwxyz" t)
  c_FIGURES : ∃ t, mg "FIGURES" = some (.str "0123456789" t)
  cl_Feed : Cls K (He.ga K "Feed")
  mk_Feed : Mk K (He.ga K "Feed") (He.ma K (He.ga K "Feed") "__init__")
  n_Feed_table : NoAttr K (He.ga K "Feed") "table"
  n_Feed_came : NoAttr K (He.ga K "Feed") "came"
  n_Feed_known : NoAttr K (He.ga K "Feed") "known"
  n_Feed_ended : NoAttr K (He.ga K "Feed") "ended"
  cl_Stock : Cls K (He.ga K "Stock")
  mk_Stock : Mk K (He.ga K "Stock") (He.ma K (He.ga K "Stock") "__init__")
  n_Stock_kinds : NoAttr K (He.ga K "Stock") "kinds"
  n_Stock_shortest : NoAttr K (He.ga K "Stock") "shortest"
  n_Stock_stands : NoAttr K (He.ga K "Stock") "stands"
  n_Stock_coming : NoAttr K (He.ga K "Stock") "coming"
  n_Stock_gained : NoAttr K (He.ga K "Stock") "gained"
  n_Stock_parts : NoAttr K (He.ga K "Stock") "parts"
  n_Stock_behind : NoAttr K (He.ga K "Stock") "behind"
  n_Stock_ahead : NoAttr K (He.ga K "Stock") "ahead"
  cl_Desk : Cls K (He.ga K "Desk")
  mk_Desk : Mk K (He.ga K "Desk") (He.ma K (He.ga K "Desk") "__init__")
  n_Desk_kinds : NoAttr K (He.ga K "Desk") "kinds"
  n_Desk_store : NoAttr K (He.ga K "Desk") "store"
  n_Desk_feeds : NoAttr K (He.ga K "Desk") "feeds"
  n_Desk_tellings : NoAttr K (He.ga K "Desk") "tellings"
  n_Desk_undone : NoAttr K (He.ga K "Desk") "undone"
  m_Feed_still_open : Meth K (He.ga K "Feed") "still_open" (He.ma K (He.ga K "Feed") "still_open")
  m_Feed_fresh : Meth K (He.ga K "Feed") "fresh" (He.ma K (He.ga K "Feed") "fresh")
  m_Feed_take : Meth K (He.ga K "Feed") "take" (He.ma K (He.ga K "Feed") "take")
  m_Feed_close : Meth K (He.ga K "Feed") "close" (He.ma K (He.ga K "Feed") "close")
  m_Feed_closed : Meth K (He.ga K "Feed") "closed" (He.ma K (He.ga K "Feed") "closed")
  m_Feed_cells : Meth K (He.ga K "Feed") "cells" (He.ma K (He.ga K "Feed") "cells")
  m_Feed_cutting : Meth K (He.ga K "Feed") "cutting" (He.ma K (He.ga K "Feed") "cutting")
  m_Feed_is_open : Meth K (He.ga K "Feed") "is_open" (He.ma K (He.ga K "Feed") "is_open")
  m_Feed_open_starts : Meth K (He.ga K "Feed") "open_starts" (He.ma K (He.ga K "Feed") "open_starts")
  m_Feed_settled : Meth K (He.ga K "Feed") "settled" (He.ma K (He.ga K "Feed") "settled")
  m_Feed_sure : Meth K (He.ga K "Feed") "sure" (He.ma K (He.ga K "Feed") "sure")
  m_Desk_say : Meth K (He.ga K "Desk") "say" (He.ma K (He.ga K "Desk") "say")
  m_Desk_begun_anew : Meth K (He.ga K "Desk") "begun_anew" (He.ma K (He.ga K "Desk") "begun_anew")
  m_Desk_feed_said : Meth K (He.ga K "Desk") "feed_said" (He.ma K (He.ga K "Desk") "feed_said")
  m_Desk_feed_lines : Meth K (He.ga K "Desk") "feed_lines" (He.ma K (He.ga K "Desk") "feed_lines")
  t_ROLL_WORDS : ∀ H, SqT K H (He.ga K "ROLL_WORDS") [.str "best", .str "count", .str "second", .str "free", .str "lay"]
  t_NUMBER_ROLL_WORDS : ∀ H, SqT K H (He.ga K "NUMBER_ROLL_WORDS") [.str "all", .str "parts", .str "mend"]
  t_NAME_WORDS : ∀ H, SqT K H (He.ga K "NAME_WORDS") [.str "begin", .str "close", .str "sure", .str "settled", .str "told", .str "drop"]
  t_LONE_WORDS : ∀ H, SqT K H (He.ga K "LONE_WORDS") [.str "back", .str "again", .str "stock", .str "total", .str "sums"]
  d_running_sums : ∃ fd, FnP K d_running_sums (He.ga K "running_sums") fd
  d_ends_well : ∃ fd, FnP K d_ends_well (He.ga K "ends_well") fd
  d_heights : ∃ fd, FnP K d_heights (He.ga K "heights") fd
  d_last_kind : ∃ fd, FnP K d_last_kind (He.ga K "last_kind") fd
  d_cutting_told : ∃ fd, FnP K d_cutting_told (He.ga K "cutting_told") fd
  d_best : ∃ fd, FnP K d_best (He.ga K "best") fd
  d_checked_roll : ∃ fd, FnP K d_checked_roll (He.ga K "checked_roll") fd
  d_steps_back : ∃ fd, FnP K d_steps_back (He.ga K "steps_back") fd
  d_meeting_place : ∃ fd, FnP K d_meeting_place (He.ga K "meeting_place") fd
  d_good_name : ∃ fd, FnP K d_good_name (He.ga K "good_name") fd
  d_good_kind : ∃ fd, FnP K d_good_kind (He.ga K "good_kind") fd
  d_fault : ∃ fd, FnP K d_fault (He.ga K "fault") fd
  d_show_cutting : ∃ fd, FnP K d_show_cutting (He.ga K "show_cutting") fd
  d_read_whole : ∃ fd, FnP K d_read_whole (He.ga K "read_whole") fd
  d_read_name : ∃ fd, FnP K d_read_name (He.ga K "read_name") fd
  d_read_numbers : ∃ fd, FnP K d_read_numbers (He.ga K "read_numbers") fd
  d_read_kind : ∃ fd, FnP K d_read_kind (He.ga K "read_kind") fd
  d_read_table : ∃ fd, FnP K d_read_table (He.ga K "read_table") fd
  d_read_roll : ∃ fd, FnP K d_read_roll (He.ga K "read_roll") fd
  d_read_line : ∃ fd, FnP K d_read_line (He.ga K "read_line") fd
  d_Feed_init : ∃ fd, FnP K d_Feed_init (He.ma K (He.ga K "Feed") "__init__") fd
  d_Feed_still_open : ∃ fd, FnP K d_Feed_still_open (He.ma K (He.ga K "Feed") "still_open") fd
  d_Feed_fresh : ∃ fd, FnP K d_Feed_fresh (He.ma K (He.ga K "Feed") "fresh") fd
  d_Feed_take : ∃ fd, FnP K d_Feed_take (He.ma K (He.ga K "Feed") "take") fd
  d_Feed_close : ∃ fd, FnP K d_Feed_close (He.ma K (He.ga K "Feed") "close") fd
  d_Feed_closed : ∃ fd, FnP K d_Feed_closed (He.ma K (He.ga K "Feed") "closed") fd
  d_Feed_cells : ∃ fd, FnP K d_Feed_cells (He.ma K (He.ga K "Feed") "cells") fd
  d_Feed_cutting : ∃ fd, FnP K d_Feed_cutting (He.ma K (He.ga K "Feed") "cutting") fd
  d_Feed_is_open : ∃ fd, FnP K d_Feed_is_open (He.ma K (He.ga K "Feed") "is_open") fd
  d_Feed_open_starts : ∃ fd, FnP K d_Feed_open_starts (He.ma K (He.ga K "Feed") "open_starts") fd
  d_Feed_settled : ∃ fd, FnP K d_Feed_settled (He.ma K (He.ga K "Feed") "settled") fd
  d_Feed_sure : ∃ fd, FnP K d_Feed_sure (He.ma K (He.ga K "Feed") "sure") fd
  d_Stock_init : ∃ fd, FnP K d_Stock_init (He.ma K (He.ga K "Stock") "__init__") fd
  d_Desk_init : ∃ fd, FnP K d_Desk_init (He.ma K (He.ga K "Desk") "__init__") fd
  d_Desk_say : ∃ fd, FnP K d_Desk_say (He.ma K (He.ga K "Desk") "say") fd
  d_Desk_begun_anew : ∃ fd, FnP K d_Desk_begun_anew (He.ma K (He.ga K "Desk") "begun_anew") fd
  d_Desk_feed_said : ∃ fd, FnP K d_Desk_feed_said (He.ma K (He.ga K "Desk") "feed_said") fd
  d_Desk_feed_lines : ∃ fd, FnP K d_Desk_feed_lines (He.ma K (He.ga K "Desk") "feed_lines") fd
  d_law_cell : ∃ fd, FnP K d_law_cell (He.ga K "_law_cell") fd
  d_law_mix : ∃ fd, FnP K d_law_mix (He.ga K "_law_mix") fd
  d_law_row : ∃ fd, FnP K d_law_row (He.ga K "_law_row") fd
  d_law_table : ∃ fd, FnP K d_law_table (He.ga K "_law_table") fd
  d_law_flaw : ∃ fd, FnP K d_law_flaw (He.ga K "_law_flaw") fd
  d_law_roll : ∃ fd, FnP K d_law_roll (He.ga K "_law_roll") fd
  d_law_drawn : ∃ fd, FnP K d_law_drawn (He.ga K "_law_drawn") fd
  d_law_sums : ∃ fd, FnP K d_law_sums (He.ga K "_law_sums") fd
  d_law_good : ∃ fd, FnP K d_law_good (He.ga K "_law_good") fd
  d_law_heights : ∃ fd, FnP K d_law_heights (He.ga K "_law_heights") fd
  d_law_back : ∃ fd, FnP K d_law_back (He.ga K "_law_back") fd
  d_law_cut : ∃ fd, FnP K d_law_cut (He.ga K "_law_cut") fd
  d_law_starts : ∃ fd, FnP K d_law_starts (He.ga K "_law_starts") fd
  d_law_stops : ∃ fd, FnP K d_law_stops (He.ga K "_law_stops") fd
  d_law_settled : ∃ fd, FnP K d_law_settled (He.ga K "_law_settled") fd
  d_law_line : ∃ fd, FnP K d_law_line (He.ga K "_law_line") fd
  d_law_table_line : ∃ fd, FnP K d_law_table_line (He.ga K "_law_table_line") fd
  d_law_cutting_line : ∃ fd, FnP K d_law_cutting_line (He.ga K "_law_cutting_line") fd
  d_law_said : ∃ fd, FnP K d_law_said (He.ga K "_law_said") fd
  d_law_sure : ∃ fd, FnP K d_law_sure (He.ga K "_law_sure") fd
  d_law_asked : ∃ fd, FnP K d_law_asked (He.ga K "_law_asked") fd
  d_law_take : ∃ fd, FnP K d_law_take (He.ga K "_law_take") fd
  d_law_closed : ∃ fd, FnP K d_law_closed (He.ga K "_law_closed") fd
  d_law : ∃ fd, FnP K d_law (He.ga K "law") fd
abbrev N_running_sums : List Str := ["roll", "told", "weight"]
abbrev p_running_sums : List Str := ["roll"]
theorem sc_running_sums : FnScope N_running_sums p_running_sums (defScope s_running_sums) := ⟨rfl, rfl, rfl, by decide +kernel, rfl, by decide +kernel, by decide +kernel⟩
abbrev N_ends_well : List Str := ["sums", "kind", "end", "place"]
abbrev p_ends_well : List Str := ["sums", "kind", "end"]
theorem sc_ends_well : FnScope N_ends_well p_ends_well (defScope s_ends_well) := ⟨rfl, rfl, rfl, by decide +kernel, rfl, by decide +kernel, by decide +kernel⟩
abbrev N_heights : List Str := ["roll", "table", "sums", "told", "end", "greatest", "kind"]
abbrev p_heights : List Str := ["roll", "table"]
theorem sc_heights : FnScope N_heights p_heights (defScope s_heights) := ⟨rfl, rfl, rfl, by decide +kernel, rfl, by decide +kernel, by decide +kernel⟩
abbrev N_last_kind : List Str := ["sums", "high", "table", "end", "kind"]
abbrev p_last_kind : List Str := ["sums", "high", "table", "end"]
theorem sc_last_kind : FnScope N_last_kind p_last_kind (defScope s_last_kind) := ⟨rfl, rfl, rfl, by decide +kernel, rfl, by decide +kernel, by decide +kernel⟩
abbrev N_cutting_told : List Str := ["roll", "table", "end", "sums", "high", "cutting", "stops", "kind"]
abbrev p_cutting_told : List Str := ["roll", "table", "end"]
theorem sc_cutting_told : FnScope N_cutting_told p_cutting_told (defScope s_cutting_told) := ⟨rfl, rfl, rfl, by decide +kernel, rfl, by decide +kernel, by decide +kernel⟩
abbrev N_best : List Str := ["roll", "table"]
abbrev p_best : List Str := ["roll", "table"]
theorem sc_best : FnScope N_best p_best (defScope s_best) := ⟨rfl, rfl, rfl, by decide +kernel, rfl, by decide +kernel, by decide +kernel⟩
abbrev N_checked_roll : List Str := ["roll", "at", "weight"]
abbrev p_checked_roll : List Str := ["roll"]
theorem sc_checked_roll : FnScope N_checked_roll p_checked_roll (defScope s_checked_roll) := ⟨rfl, rfl, rfl, by decide +kernel, rfl, by decide +kernel, by decide +kernel⟩
abbrev N_steps_back : List Str := ["roll", "table", "sums", "high", "told", "end"]
abbrev p_steps_back : List Str := ["roll", "table"]
theorem sc_steps_back : FnScope N_steps_back p_steps_back (defScope s_steps_back) := ⟨rfl, rfl, rfl, by decide +kernel, rfl, by decide +kernel, by decide +kernel⟩
abbrev N_meeting_place : List Str := ["before", "one", "other"]
abbrev p_meeting_place : List Str := ["before", "one", "other"]
theorem sc_meeting_place : FnScope N_meeting_place p_meeting_place (defScope s_meeting_place) := ⟨rfl, rfl, rfl, by decide +kernel, rfl, by decide +kernel, by decide +kernel⟩
abbrev N_good_name : List Str := ["name", "letter"]
abbrev p_good_name : List Str := ["name"]
theorem sc_good_name : FnScope N_good_name p_good_name (defScope s_good_name) := ⟨rfl, rfl, rfl, by decide +kernel, rfl, by decide +kernel, by decide +kernel⟩
abbrev N_good_kind : List Str := ["kind", "name", "width", "worth", "allowed"]
abbrev p_good_kind : List Str := ["kind"]
theorem sc_good_kind : FnScope N_good_kind p_good_kind (defScope s_good_kind) := ⟨rfl, rfl, rfl, by decide +kernel, rfl, by decide +kernel, by decide +kernel⟩
abbrev N_fault : List Str := ["table", "seen", "at", "kind"]
abbrev p_fault : List Str := ["table"]
theorem sc_fault : FnScope N_fault p_fault (defScope s_fault) := ⟨rfl, rfl, rfl, by decide +kernel, rfl, by decide +kernel, by decide +kernel⟩
abbrev N_show_cutting : List Str := ["cutting", "name", "place"]
abbrev p_show_cutting : List Str := ["cutting"]
theorem sc_show_cutting : FnScope N_show_cutting p_show_cutting (defScope s_show_cutting) := ⟨rfl, rfl, rfl, by decide +kernel, rfl, by decide +kernel, by decide +kernel⟩
abbrev N_read_whole : List Str := ["word", "figures", "sign"]
abbrev p_read_whole : List Str := ["word"]
theorem sc_read_whole : FnScope N_read_whole p_read_whole (defScope s_read_whole) := ⟨rfl, rfl, rfl, by decide +kernel, rfl, by decide +kernel, by decide +kernel⟩
abbrev N_read_name : List Str := ["word"]
abbrev p_read_name : List Str := ["word"]
theorem sc_read_name : FnScope N_read_name p_read_name (defScope s_read_name) := ⟨rfl, rfl, rfl, by decide +kernel, rfl, by decide +kernel, by decide +kernel⟩
abbrev N_read_numbers : List Str := ["line", "word"]
abbrev p_read_numbers : List Str := ["line"]
theorem sc_read_numbers : FnScope N_read_numbers p_read_numbers (defScope s_read_numbers) := ⟨rfl, rfl, rfl, by decide +kernel, rfl, by decide +kernel, by decide +kernel⟩
abbrev N_read_kind : List Str := ["part", "words"]
abbrev p_read_kind : List Str := ["part"]
theorem sc_read_kind : FnScope N_read_kind p_read_kind (defScope s_read_kind) := ⟨rfl, rfl, rfl, by decide +kernel, rfl, by decide +kernel, by decide +kernel⟩
abbrev N_read_table : List Str := ["line", "table", "part"]
abbrev p_read_table : List Str := ["line"]
theorem sc_read_table : FnScope N_read_table p_read_table (defScope s_read_table) := ⟨rfl, rfl, rfl, by decide +kernel, rfl, by decide +kernel, by decide +kernel⟩
abbrev N_read_roll : List Str := ["words"]
abbrev p_read_roll : List Str := ["words"]
theorem sc_read_roll : FnScope N_read_roll p_read_roll (defScope s_read_roll) := ⟨rfl, rfl, rfl, by decide +kernel, rfl, by decide +kernel, by decide +kernel⟩
abbrev N_read_line : List Str := ["table", "line", "words", "first", "rest"]
abbrev p_read_line : List Str := ["table", "line"]
theorem sc_read_line : FnScope N_read_line p_read_line (defScope s_read_line) := ⟨rfl, rfl, rfl, by decide +kernel, rfl, by decide +kernel, by decide +kernel⟩
abbrev N_Feed_init : List Str := ["self", "table"]
abbrev p_Feed_init : List Str := ["self", "table"]
theorem sc_Feed_init : FnScope N_Feed_init p_Feed_init (defScope s_Feed_init) := ⟨rfl, rfl, rfl, by decide +kernel, rfl, by decide +kernel, by decide +kernel⟩
abbrev N_Feed_still_open : List Str := ["self"]
abbrev p_Feed_still_open : List Str := ["self"]
theorem sc_Feed_still_open : FnScope N_Feed_still_open p_Feed_still_open (defScope s_Feed_still_open) := ⟨rfl, rfl, rfl, by decide +kernel, rfl, by decide +kernel, by decide +kernel⟩
abbrev N_Feed_fresh : List Str := ["self", "told", "begin"]
abbrev p_Feed_fresh : List Str := ["self"]
theorem sc_Feed_fresh : FnScope N_Feed_fresh p_Feed_fresh (defScope s_Feed_fresh) := ⟨rfl, rfl, rfl, by decide +kernel, rfl, by decide +kernel, by decide +kernel⟩
abbrev N_Feed_take : List Str := ["self", "weight"]
abbrev p_Feed_take : List Str := ["self", "weight"]
theorem sc_Feed_take : FnScope N_Feed_take p_Feed_take (defScope s_Feed_take) := ⟨rfl, rfl, rfl, by decide +kernel, rfl, by decide +kernel, by decide +kernel⟩
abbrev N_Feed_close : List Str := ["self"]
abbrev p_Feed_close : List Str := ["self"]
theorem sc_Feed_close : FnScope N_Feed_close p_Feed_close (defScope s_Feed_close) := ⟨rfl, rfl, rfl, by decide +kernel, rfl, by decide +kernel, by decide +kernel⟩
abbrev N_Feed_closed : List Str := ["self"]
abbrev p_Feed_closed : List Str := ["self"]
theorem sc_Feed_closed : FnScope N_Feed_closed p_Feed_closed (defScope s_Feed_closed) := ⟨rfl, rfl, rfl, by decide +kernel, rfl, by decide +kernel, by decide +kernel⟩
abbrev N_Feed_cells : List Str := ["self"]
abbrev p_Feed_cells : List Str := ["self"]
theorem sc_Feed_cells : FnScope N_Feed_cells p_Feed_cells (defScope s_Feed_cells) := ⟨rfl, rfl, rfl, by decide +kernel, rfl, by decide +kernel, by decide +kernel⟩
abbrev N_Feed_cutting : List Str := ["self"]
abbrev p_Feed_cutting : List Str := ["self"]
theorem sc_Feed_cutting : FnScope N_Feed_cutting p_Feed_cutting (defScope s_Feed_cutting) := ⟨rfl, rfl, rfl, by decide +kernel, rfl, by decide +kernel, by decide +kernel⟩
abbrev N_Feed_is_open : List Str := ["self", "sums", "high", "kind", "place", "count"]
abbrev p_Feed_is_open : List Str := ["self", "sums", "high", "kind", "place"]
theorem sc_Feed_is_open : FnScope N_Feed_is_open p_Feed_is_open (defScope s_Feed_is_open) := ⟨rfl, rfl, rfl, by decide +kernel, rfl, by decide +kernel, by decide +kernel⟩
abbrev N_Feed_open_starts : List Str := ["self", "count", "sums", "high", "told", "place", "kind"]
abbrev p_Feed_open_starts : List Str := ["self"]
theorem sc_Feed_open_starts : FnScope N_Feed_open_starts p_Feed_open_starts (defScope s_Feed_open_starts) := ⟨rfl, rfl, rfl, by decide +kernel, rfl, by decide +kernel, by decide +kernel⟩
abbrev N_Feed_settled : List Str := ["self", "before", "starts", "place", "other"]
abbrev p_Feed_settled : List Str := ["self"]
theorem sc_Feed_settled : FnScope N_Feed_settled p_Feed_settled (defScope s_Feed_settled) := ⟨rfl, rfl, rfl, by decide +kernel, rfl, by decide +kernel, by decide +kernel⟩
abbrev N_Feed_sure : List Str := ["self"]
abbrev p_Feed_sure : List Str := ["self"]
theorem sc_Feed_sure : FnScope N_Feed_sure p_Feed_sure (defScope s_Feed_sure) := ⟨rfl, rfl, rfl, by decide +kernel, rfl, by decide +kernel, by decide +kernel⟩
abbrev N_Stock_init : List Str := ["self", "table", "least"]
abbrev p_Stock_init : List Str := ["self", "table", "least"]
theorem sc_Stock_init : FnScope N_Stock_init p_Stock_init (defScope s_Stock_init) := ⟨rfl, rfl, rfl, by decide +kernel, rfl, by decide +kernel, by decide +kernel⟩
abbrev N_Desk_init : List Str := ["self"]
abbrev p_Desk_init : List Str := ["self"]
theorem sc_Desk_init : FnScope N_Desk_init p_Desk_init (defScope s_Desk_init) := ⟨rfl, rfl, rfl, by decide +kernel, rfl, by decide +kernel, by decide +kernel⟩
abbrev N_Desk_say : List Str := ["self", "line", "asked", "e"]
abbrev p_Desk_say : List Str := ["self", "line"]
theorem sc_Desk_say : FnScope N_Desk_say p_Desk_say (defScope s_Desk_say) := ⟨rfl, rfl, rfl, by decide +kernel, rfl, by decide +kernel, by decide +kernel⟩
abbrev N_Desk_begun_anew : List Str := ["self", "table"]
abbrev p_Desk_begun_anew : List Str := ["self", "table"]
theorem sc_Desk_begun_anew : FnScope N_Desk_begun_anew p_Desk_begun_anew (defScope s_Desk_begun_anew) := ⟨rfl, rfl, rfl, by decide +kernel, rfl, by decide +kernel, by decide +kernel⟩
abbrev N_Desk_feed_said : List Str := ["self", "asked", "name"]
abbrev p_Desk_feed_said : List Str := ["self", "asked"]
theorem sc_Desk_feed_said : FnScope N_Desk_feed_said p_Desk_feed_said (defScope s_Desk_feed_said) := ⟨rfl, rfl, rfl, by decide +kernel, rfl, by decide +kernel, by decide +kernel⟩
abbrev N_Desk_feed_lines : List Str := ["self", "asked", "feed", "told", "weight"]
abbrev p_Desk_feed_lines : List Str := ["self", "asked", "feed"]
theorem sc_Desk_feed_lines : FnScope N_Desk_feed_lines p_Desk_feed_lines (defScope s_Desk_feed_lines) := ⟨rfl, rfl, rfl, by decide +kernel, rfl, by decide +kernel, by decide +kernel⟩
abbrev N_law_cell : List Str := ["_law_script", "_law_place", "_law_seed", "_law_cell_here"]
abbrev p_law_cell : List Str := ["_law_script", "_law_place"]
theorem sc_law_cell : FnScope N_law_cell p_law_cell (defScope s_law_cell) := ⟨rfl, rfl, rfl, by decide +kernel, rfl, by decide +kernel, by decide +kernel⟩
abbrev N_law_mix : List Str := ["_law_cell_here", "_law_k", "_law_one", "_law_two"]
abbrev p_law_mix : List Str := ["_law_cell_here", "_law_k"]
theorem sc_law_mix : FnScope N_law_mix p_law_mix (defScope s_law_mix) := ⟨rfl, rfl, rfl, by decide +kernel, rfl, by decide +kernel, by decide +kernel⟩
abbrev N_law_row : List Str := ["_law_script", "_law_place", "_law_sizes", "_law_cell_here", "_law_left", "_law_some", "_law_k", "_law_other"]
abbrev p_law_row : List Str := ["_law_script", "_law_place", "_law_sizes"]
theorem sc_law_row : FnScope N_law_row p_law_row (defScope s_law_row) := ⟨rfl, rfl, rfl, by decide +kernel, rfl, by decide +kernel, by decide +kernel⟩
abbrev N_law_table : List Str := ["_law_script", "_law_place", "_law_most", "_law_pool", "_law_some", "_law_flaw_here", "_law_gain", "_law_table_here", "_law_k", "_law_at", "_law_width", "_law_worth", "_law_allowed", "_law_name"]
abbrev p_law_table : List Str := ["_law_script", "_law_place", "_law_most"]
theorem sc_law_table : FnScope N_law_table p_law_table (defScope s_law_table) := ⟨rfl, rfl, rfl, by decide +kernel, rfl, by decide +kernel, by decide +kernel⟩
abbrev N_law_flaw : List Str := ["_law_script", "_law_place", "_law_most"]
abbrev p_law_flaw : List Str := ["_law_script", "_law_place", "_law_most"]
theorem sc_law_flaw : FnScope N_law_flaw p_law_flaw (defScope s_law_flaw) := ⟨rfl, rfl, rfl, by decide +kernel, rfl, by decide +kernel, by decide +kernel⟩
abbrev N_law_roll : List Str := ["_law_script", "_law_place", "_law_most", "_law_flaw_here", "_law_some", "_law_great", "_law_roll_here", "_law_k", "_law_at", "_law_weight"]
abbrev p_law_roll : List Str := ["_law_script", "_law_place", "_law_most", "_law_flaw_here"]
theorem sc_law_roll : FnScope N_law_roll p_law_roll (defScope s_law_roll) := ⟨rfl, rfl, rfl, by decide +kernel, rfl, by decide +kernel, by decide +kernel⟩
abbrev N_law_drawn : List Str := ["_law_script", "_law_place", "_law_most", "_law_kinds", "_law_flaw_here"]
abbrev p_law_drawn : List Str := ["_law_script", "_law_place", "_law_most", "_law_kinds"]
theorem sc_law_drawn : FnScope N_law_drawn p_law_drawn (defScope s_law_drawn) := ⟨rfl, rfl, rfl, by decide +kernel, rfl, by decide +kernel, by decide +kernel⟩
abbrev N_law_sums : List Str := ["_law_roll_here", "_law_sums_here", "_law_weight"]
abbrev p_law_sums : List Str := ["_law_roll_here"]
theorem sc_law_sums : FnScope N_law_sums p_law_sums (defScope s_law_sums) := ⟨rfl, rfl, rfl, by decide +kernel, rfl, by decide +kernel, by decide +kernel⟩
abbrev N_law_good : List Str := ["_law_sums_here", "_law_kind", "_law_at", "_law_end"]
abbrev p_law_good : List Str := ["_law_sums_here", "_law_kind", "_law_at"]
theorem sc_law_good : FnScope N_law_good p_law_good (defScope s_law_good) := ⟨rfl, rfl, rfl, by decide +kernel, rfl, by decide +kernel, by decide +kernel⟩
abbrev N_law_heights : List Str := ["_law_roll_here", "_law_table_here", "_law_sums_here", "_law_high", "_law_end", "_law_most", "_law_kind", "_law_at"]
abbrev p_law_heights : List Str := ["_law_roll_here", "_law_table_here"]
theorem sc_law_heights : FnScope N_law_heights p_law_heights (defScope s_law_heights) := ⟨rfl, rfl, rfl, by decide +kernel, rfl, by decide +kernel, by decide +kernel⟩
abbrev N_law_back : List Str := ["_law_roll_here", "_law_table_here", "_law_sums_here", "_law_high", "_law_told", "_law_end", "_law_ways", "_law_kind"]
abbrev p_law_back : List Str := ["_law_roll_here", "_law_table_here"]
theorem sc_law_back : FnScope N_law_back p_law_back (defScope s_law_back) := ⟨rfl, rfl, rfl, by decide +kernel, rfl, by decide +kernel, by decide +kernel⟩
abbrev N_law_cut : List Str := ["_law_before", "_law_end", "_law_cutting", "_law_place", "_law_name"]
abbrev p_law_cut : List Str := ["_law_before", "_law_end"]
theorem sc_law_cut : FnScope N_law_cut p_law_cut (defScope s_law_cut) := ⟨rfl, rfl, rfl, by decide +kernel, rfl, by decide +kernel, by decide +kernel⟩
abbrev N_law_starts : List Str := ["_law_roll_here", "_law_table_here", "_law_sums_here", "_law_high", "_law_count", "_law_found", "_law_at", "_law_kind", "_law_over"]
abbrev p_law_starts : List Str := ["_law_roll_here", "_law_table_here"]
theorem sc_law_starts : FnScope N_law_starts p_law_starts (defScope s_law_starts) := ⟨rfl, rfl, rfl, by decide +kernel, rfl, by decide +kernel, by decide +kernel⟩
abbrev N_law_stops : List Str := ["_law_before", "_law_end", "_law_found"]
abbrev p_law_stops : List Str := ["_law_before", "_law_end"]
theorem sc_law_stops : FnScope N_law_stops p_law_stops (defScope s_law_stops) := ⟨rfl, rfl, rfl, by decide +kernel, rfl, by decide +kernel, by decide +kernel⟩
abbrev N_law_settled : List Str := ["_law_before", "_law_starts_here", "_law_held", "_law_start", "_law_stop"]
abbrev p_law_settled : List Str := ["_law_before", "_law_starts_here"]
theorem sc_law_settled : FnScope N_law_settled p_law_settled (defScope s_law_settled) := ⟨rfl, rfl, rfl, by decide +kernel, rfl, by decide +kernel, by decide +kernel⟩
abbrev N_law_line : List Str := ["_law_some", "_law_one"]
abbrev p_law_line : List Str := ["_law_some"]
theorem sc_law_line : FnScope N_law_line p_law_line (defScope s_law_line) := ⟨rfl, rfl, rfl, by decide +kernel, rfl, by decide +kernel, by decide +kernel⟩
abbrev N_law_table_line : List Str := ["_law_table_here", "_law_kind", "_law_one"]
abbrev p_law_table_line : List Str := ["_law_table_here"]
theorem sc_law_table_line : FnScope N_law_table_line p_law_table_line (defScope s_law_table_line) := ⟨rfl, rfl, rfl, by decide +kernel, rfl, by decide +kernel, by decide +kernel⟩
abbrev N_law_cutting_line : List Str := ["_law_cutting", "_law_name", "_law_place"]
abbrev p_law_cutting_line : List Str := ["_law_cutting"]
theorem sc_law_cutting_line : FnScope N_law_cutting_line p_law_cutting_line (defScope s_law_cutting_line) := ⟨rfl, rfl, rfl, by decide +kernel, rfl, by decide +kernel, by decide +kernel⟩
abbrev N_law_said : List Str := ["_law_desk", "_law_line_here", "_law_due", "_law_found"]
abbrev p_law_said : List Str := ["_law_desk", "_law_line_here", "_law_due"]
theorem sc_law_said : FnScope N_law_said p_law_said (defScope s_law_said) := ⟨rfl, rfl, rfl, by decide +kernel, rfl, by decide +kernel, by decide +kernel⟩
abbrev N_law_sure : List Str := ["_law_roll_here", "_law_table_here", "_law_before", "_law_place"]
abbrev p_law_sure : List Str := ["_law_roll_here", "_law_table_here"]
theorem sc_law_sure : FnScope N_law_sure p_law_sure (defScope s_law_sure) := ⟨rfl, rfl, rfl, by decide +kernel, rfl, by decide +kernel, by decide +kernel⟩
abbrev N_law_asked : List Str := ["_law_desk", "_law_name", "_law_roll_here", "_law_table_here", "_law_place", "_law_sure_here", "_law_told"]
abbrev p_law_asked : List Str := ["_law_desk", "_law_name", "_law_roll_here", "_law_table_here"]
theorem sc_law_asked : FnScope N_law_asked p_law_asked (defScope s_law_asked) := ⟨rfl, rfl, rfl, by decide +kernel, rfl, by decide +kernel, by decide +kernel⟩
abbrev N_law_take : List Str := ["_law_desk", "_law_name", "_law_roll_here", "_law_more", "_law_table_here", "_law_before", "_law_due"]
abbrev p_law_take : List Str := ["_law_desk", "_law_name", "_law_roll_here", "_law_more", "_law_table_here"]
theorem sc_law_take : FnScope N_law_take p_law_take (defScope s_law_take) := ⟨rfl, rfl, rfl, by decide +kernel, rfl, by decide +kernel, by decide +kernel⟩
abbrev N_law_closed : List Str := ["_law_desk", "_law_name", "_law_roll_here", "_law_table_here", "_law_known", "_law_told"]
abbrev p_law_closed : List Str := ["_law_desk", "_law_name", "_law_roll_here", "_law_table_here"]
theorem sc_law_closed : FnScope N_law_closed p_law_closed (defScope s_law_closed) := ⟨rfl, rfl, rfl, by decide +kernel, rfl, by decide +kernel, by decide +kernel⟩
abbrev N_law : List Str := ["_law_script", "_law_first", "_law_table_here", "_law_second", "_law_some", "_law_desk", "_law_names_here", "_law_rolls", "_law_taken", "_law_begun", "_law_name", "_law_k", "_law_which", "_law_count", "_law_ask", "_law_roll_here", "_law_more"]
abbrev p_law : List Str := ["_law_script"]
theorem sc_law : FnScope N_law p_law (defScope s_law) := ⟨rfl, rfl, rfl, by decide +kernel, rfl, by decide +kernel, by decide +kernel⟩
end Sv
/-! What readings evaluate to: more words over Evl; rows (lists of tuples). -/
namespace Sv
open PySem PySem.Spec PyProof.Rows L2 Evl
/-! ### pairs of lists -/
inductive A2 {α β : Type} (R : α → β → Prop) : List α → List β → Prop where
  | nil : A2 R [] []
  | cons {a : α} {b : β} {as : List α} {bs : List β} (h : R a b) (t : A2 R as bs) : A2 R (a :: as) (b :: bs)
namespace A2
variable {α β : Type} {R S : α → β → Prop} {as as' : List α} {bs bs' : List β}
theorem length (h : A2 R as bs) : as.length = bs.length := by
  induction h with
  | nil => rfl
  | cons _ _ ih => simp [ih]
theorem mono (h : A2 R as bs) (k : ∀ a b, R a b → S a b) : A2 S as bs := by
  induction h with
  | nil => exact .nil
  | cons h _ ih => exact .cons (k _ _ h) ih
theorem append (h : A2 R as bs) (g : A2 R as' bs') : A2 R (as ++ as') (bs ++ bs') := by
  induction h with
  | nil => exact g
  | cons h _ ih => exact .cons h ih
theorem snoc {a : α} {b : β} (h : A2 R as bs) (g : R a b) : A2 R (as ++ [a]) (bs ++ [b]) := h.append (.cons g .nil)
theorem reverse (h : A2 R as bs) : A2 R as.reverse bs.reverse := by
  induction h with
  | nil => exact .nil
  | cons h _ ih =>
    rw [List.reverse_cons, List.reverse_cons]
    exact ih.snoc h
theorem drop (h : A2 R as bs) (n : Nat) : A2 R (as.drop n) (bs.drop n) := by
  induction h generalizing n with
  | nil => rw [List.drop_nil, List.drop_nil]; exact .nil
  | cons h t ih =>
    cases n with
    | zero => exact .cons h t
    | succ n => exact ih n
theorem get {i : Nat} {b : β} (h : A2 R as bs) (e : bs[i]? = some b) : ∃ a, as[i]? = some a ∧ R a b := by
  induction h generalizing i with
  | nil => simp at e
  | cons h _ ih =>
    cases i with
    | zero =>
      have e1 := Option.some.inj (by simpa using e)
      subst e1
      exact ⟨_, rfl, h⟩
    | succ i => exact ih (i := i) (by simpa using e)
theorem get' {i : Nat} {a : α} (h : A2 R as bs) (e : as[i]? = some a) : ∃ b, bs[i]? = some b ∧ R a b := by
  induction h generalizing i with
  | nil => simp at e
  | cons h _ ih =>
    cases i with
    | zero =>
      have e1 := Option.some.inj (by simpa using e)
      subst e1
      exact ⟨_, rfl, h⟩
    | succ i => exact ih (i := i) (by simpa using e)
end A2
/-! ### rows: a list of tuples -/
def RowsL (K : PySem.W.Frag) (H : Hp) (a : Addr) (rows : List (List V)) : Prop := ∃ ts : List Addr, SqL K H a (ts.map V.ref) ∧ A2 (fun t r => SqT K H t r) ts rows
/-- a list that may be written -/
def RowsN (K : PySem.W.Frag) (H : Hp) (a : Addr) (rows : List (List V)) : Prop := ∃ ts : List Addr, H a = some (.lst (ts.map V.ref)) ∧ A2 (fun t r => SqT K H t r) ts rows
section
variable {K : PySem.W.Frag} {H H' : Hp} {a : Addr} {rows : List (List V)}
theorem RowsN.l (h : RowsN K H a rows) : RowsL K H a rows := by
  obtain ⟨ts, h1, h2⟩ := h
  exact ⟨ts, sq_of h1, h2⟩
theorem RowsL.mono (h : RowsL K H a rows) (e : Ex H H') : RowsL K H' a rows := by
  obtain ⟨ts, h1, h2⟩ := h
  exact ⟨ts, ex_l e h1, h2.mono fun _ _ q => ex_t e q⟩
theorem RowsN.mono (h : RowsN K H a rows) (e : Ex H H') : RowsN K H' a rows := by
  obtain ⟨ts, h1, h2⟩ := h
  exact ⟨ts, e _ _ h1, h2.mono fun _ _ q => ex_t e q⟩
/-- tuples stay where lists are changed -/
theorem sqt_upd {H : Hp} {b l : Addr} {xs ys : List V} {o : HO} (h : SqT K H b xs) (hl : H l = some o) (hn : ∀ zs, o ≠ .tup zs) (hf : ∀ ob zs, o ≠ .frz ob (.tup zs)) (o' : HO) : SqT K (upd H l o') b xs := by
  rcases h with (h | ⟨ob, h⟩) | h
  · exact .inl (.inl (by rw [upd_ne (fun e => hn _ (by rw [e, hl] at h; exact Option.some.inj h))]; exact h))
  · exact .inl (.inr ⟨ob, by rw [upd_ne (fun e => hf _ _ (by rw [e, hl] at h; exact Option.some.inj h))]; exact h⟩)
  · exact .inr h
theorem sqt_lst {H : Hp} {b l : Addr} {xs ys : List V} (h : SqT K H b xs) (hl : H l = some (.lst ys)) (o' : HO) : SqT K (upd H l o') b xs :=
  sqt_upd (ys := ys) h hl (fun _ q => nomatch q) (fun _ _ q => nomatch q) o'
theorem sqt_ins {H : Hp} {b l C dx : Addr} {xs : List V} {fs : List (Str × V)} (h : SqT K H b xs) (hl : H l = some (.ins C dx fs)) (o' : HO) : SqT K (upd H l o') b xs :=
  sqt_upd (ys := []) h hl (fun _ q => nomatch q) (fun _ _ q => nomatch q) o'
theorem sqt_dk {H : Hp} {b l : Addr} {xs : List V} {kvs : List (Key × V)} (h : SqT K H b xs) (hl : H l = some (.dK kvs)) (o' : HO) : SqT K (upd H l o') b xs :=
  sqt_upd (ys := []) h hl (fun _ q => nomatch q) (fun _ _ q => nomatch q) o'
theorem sqt_new {H : Hp} {b l : Addr} {xs : List V} (h : SqT K H b xs) (hl : H l = none) (o' : HO) : SqT K (upd H l o') b xs := ex_t (Ex.new hl) h
end
/-! ### expressions whose value is told by a relation -/
def EvG (te : TE) (σ : L2.St) (H : Hp) (P : Hp → V → Hp → Prop) : Prop := ∀ H1, Ex H H1 → ∀ Q : VK, (∀ v H2, Ex H1 H2 → P H1 v H2 → Q v H2) → te σ H1 Q
def RetG (P : Hp → V → Hp → Prop) (H : Hp) (Q : VK) : Prop := ∀ v H2, Ex H H2 → P H v H2 → Q v H2
/-- a new list of rows -/
def NewR (K : PySem.W.Frag) (rows : List (List V)) : Hp → V → Hp → Prop := fun H v H2 => ∃ p, v = .ref p ∧ H p = none ∧ RowsN K H2 p rows
def SpG (sp : Sp) (vs : List V) (H : Hp) (P : Hp → V → Hp → Prop) : Prop := ∀ H1, Ex H H1 → ∀ Q : VK, RetG P H1 Q → ∀ E : XK, sp vs H1 Q E
section
variable {K : PySem.W.Frag} {σ : L2.St} {H H' : Hp} {ta tb te tx : TE} {t u : TT} {x y z v : V} {r : R2} {D : Ends} {tu tw tz : TS} {P P' : Hp → V → Hp → Prop}
theorem EvG.mono (e : Ex H H') (h : EvG te σ H P) : EvG te σ H' P := fun H1 a Q q => h H1 (e.trans a) Q q
theorem EvG.of (h : Ev te σ H v) : EvG te σ H (fun _ w _ => w = v) := fun H1 e Q q => h H1 e Q fun H2 e2 => q v H2 e2 rfl
theorem s_asgG {i : Nat} (h : EvG te σ H P) (k : ∀ v H1, Ex H H1 → P H v H1 → D.nx (σ.set i (some v)) H1) : tAsg te (gName i) D σ H := h H (Ex.refl H) _ fun v H1 e p => k v H1 e p
theorem q_asgG {i : Nat} (h : EvG te σ H P) (k : ∀ v H1, Ex H H1 → P H v H1 → tz D (σ.set i (some v)) H1) : tSeq (tAsg te (gName i)) tz D σ H := s_asgG (D := { D with nx := tz D }) h k
theorem s_retG (h : EvG te σ H P) (k : ∀ v H1, Ex H H1 → P H v H1 → D.rt v H1) : tRet te D σ H := h H (Ex.refl H) _ fun v H1 e p => k v H1 e p
theorem eg_call {sp : Sp} {dvs vs : List V} {E : XK} {ta : TA} (h : EvA ta σ H vs) (hs : SpG sp (vs ++ dvs) H P) (hP : ∀ H1 H2 v H3, Ex H1 H2 → P H2 v H3 → P H1 v H3) : EvG (tCall sp dvs E ta) σ H P := fun H1 e Q q =>
  h H1 e _ fun H2 e2 => hs H2 (e.trans e2) Q (fun v H3 e3 p => q v H3 (e2.trans e3) (hP _ _ _ _ e2 p)) E
theorem newR_back (H1 H2 : Hp) (v : V) (H3 : Hp) {rows : List (List V)} (e : Ex H1 H2) (h : NewR K rows H2 v H3) : NewR K rows H1 v H3 := by
  obtain ⟨p, e1, h1, h2⟩ := h
  exact ⟨p, e1, fresh_back e h1, h2⟩
/-- an operation whose first operand is told by a relation -/
theorem ev_opG (ha : EvG ta σ H P) (hb : Ev tb σ H y) (hr : ∀ H1 v H2, Ex H H1 → Ex H1 H2 → P H1 v H2 → RV r v y H2 z) : Ev (tOp r ta tb) σ H z := fun H1 e Q q =>
  ha H1 e _ fun v H2 e2 p => hb H2 (e.trans e2) _ fun H3 e3 => hr H1 v H2 e e2 p H3 e3 Q fun H4 e4 => q H4 ((e2.trans e3).trans e4)
theorem eg_opG (ha : EvG ta σ H P) (hb : Ev tb σ H y) (hr : ∀ H1 v H2, Ex H H1 → Ex H1 H2 → P H1 v H2 → ∀ H3, Ex H2 H3 → ∀ Q : VK, (∀ w H4, Ex H3 H4 → P' H1 w H4 → Q w H4) → r v y H3 Q) : EvG (tOp r ta tb) σ H P' := fun H1 e Q q =>
  ha H1 e _ fun v H2 e2 p => hb H2 (e.trans e2) _ fun H3 e3 => hr H1 v H2 e e2 p H3 e3 Q fun w H4 e4 pw => q w H4 ((e2.trans e3).trans e4) pw
/-- xs[i] of a new list of rows: a row's tuple -/
theorem ex_new_lst {p : Addr} {xs : List V} (e : Ex H H') (h : H p = some (.lst xs)) : H' p = some (.lst xs) := e p _ h
/-! chains of comparisons -/
theorem ev_chain {r r' : R2} {tc : TE} {w : V} {a b : Bool} (ha : Ev ta σ H x) (hb : Ev tb σ H y) (hr : RV r x y H (.bl a)) (hc : a = true → Ev tc σ H w) (hr' : a = true → RV r' y w H (.bl b)) : Ev (tChain r r' ta tb tc) σ H (.bl (a && b)) := fun H1 e Q q =>
  ha H1 e _ fun H2 e2 => hb H2 (e.trans e2) _ fun H3 e3 => hr H3 ((e.trans e2).trans e3) _ fun H4 e4 => ⟨a, rfl, by
    cases a with
    | true =>
      rw [if_pos rfl]
      exact hc rfl H4 (((e.trans e2).trans e3).trans e4) _ fun H5 e5 => hr' rfl H5 ((((e.trans e2).trans e3).trans e4).trans e5) Q fun H6 e6 => q H6 ((((e2.trans e3).trans e4).trans e5).trans e6)
    | false =>
      rw [if_neg Bool.false_ne_true]
      exact q H4 ((e2.trans e3).trans e4)⟩
theorem rv_lt {i j : Int} : RV (rI0 fun i j => .bl (decide (i < j))) (.int i) (.int j) H (.bl (decide (i < j))) := rv_I0
/-! fields -/
theorem ev_fld {a C dx : Addr} {fs : List (Str × V)} {f : Str} (h : Ev ta σ H (.ref a)) (ho : H a = some (.ins C dx fs)) (hc : Cls K C) (hn : NoAttr K C f) (hl : fs.lookup f = some v) : Ev (tFld K ta f) σ H v := fun H1 e Q q =>
  h H1 e _ fun H2 e2 => ⟨a, C, dx, fs, v, rfl, (e.trans e2) _ _ ho, hc, hn, hl, q H2 e2⟩
theorem s_fld {a C dx : Addr} {fs : List (Str × V)} {f : Str} {tv : TE} (hv : Ev tv σ H y) (h : Ev ta σ H (.ref a)) (ho : H a = some (.ins C dx fs)) (hc : Cls K C) (hn : NoAttr K C f) (hl : fs.length < 1000)
    (k : ∀ H1, Ex H H1 → D.nx σ (upd H1 a (.ins C dx (putF f y fs)))) : sFld K ta tv f D σ H := hv H (Ex.refl H) _ fun H1 e1 => h H1 e1 _ fun H2 e2 => ⟨a, C, dx, fs, rfl, (e1.trans e2) _ _ ho, hc, hn, hl, k H2 (e1.trans e2)⟩
theorem q_fld {a C dx : Addr} {fs : List (Str × V)} {f : Str} {tv : TE} (hv : Ev tv σ H y) (h : Ev ta σ H (.ref a)) (ho : H a = some (.ins C dx fs)) (hc : Cls K C) (hn : NoAttr K C f) (hl : fs.length < 1000)
    (k : ∀ H1, Ex H H1 → tz D σ (upd H1 a (.ins C dx (putF f y fs)))) : tSeq (sFld K ta tv f) tz D σ H := s_fld (D := { D with nx := tz D }) hv h ho hc hn hl k
/-- .. told by a relation -/
theorem s_fldG {a C dx : Addr} {fs : List (Str × V)} {f : Str} {tv : TE} (hv : EvG tv σ H P) (h : Ev ta σ H (.ref a)) (ho : H a = some (.ins C dx fs)) (hc : Cls K C) (hn : NoAttr K C f) (hl : fs.length < 1000)
    (k : ∀ v H1 H2, Ex H H1 → P H v H1 → Ex H1 H2 → D.nx σ (upd H2 a (.ins C dx (putF f v fs)))) : sFld K ta tv f D σ H := hv H (Ex.refl H) _ fun v H1 e1 p => h H1 e1 _ fun H2 e2 => ⟨a, C, dx, fs, rfl, (e1.trans e2) _ _ ho, hc, hn, hl, k v H1 H2 e1 p e2⟩
theorem q_fldG {a C dx : Addr} {fs : List (Str × V)} {f : Str} {tv : TE} (hv : EvG tv σ H P) (h : Ev ta σ H (.ref a)) (ho : H a = some (.ins C dx fs)) (hc : Cls K C) (hn : NoAttr K C f) (hl : fs.length < 1000)
    (k : ∀ v H1 H2, Ex H H1 → P H v H1 → Ex H1 H2 → tz D σ (upd H2 a (.ins C dx (putF f v fs)))) : tSeq (sFld K ta tv f) tz D σ H := s_fldG (D := { D with nx := tz D }) hv h ho hc hn hl k
/-! a new list told as EvL, as a relation -/
def NewL (xs : List V) : Hp → V → Hp → Prop := fun H v H2 => ∃ p, v = .ref p ∧ H p = none ∧ H2 p = some (.lst xs)
def NewU (xs : List V) : Hp → V → Hp → Prop := fun H v H2 => ∃ p, v = .ref p ∧ H p = none ∧ H2 p = some (.tup xs)
theorem EvL.g {xs : List V} (h : EvL te σ H xs) : EvG te σ H (NewL xs) := fun H1 e Q q => h H1 e Q fun p H2 hp e2 h2 => q _ H2 e2 ⟨p, rfl, hp, h2⟩
theorem EvU.g {xs : List V} (h : EvU te σ H xs) : EvG te σ H (NewU xs) := fun H1 e Q q => h H1 e Q fun p H2 hp e2 h2 => q _ H2 e2 ⟨p, rfl, hp, h2⟩
theorem EvG.l {xs : List V} (h : EvG te σ H (NewL xs)) : EvL te σ H xs := fun H1 e Q q => h H1 e Q fun v H2 e2 ⟨p, ev, hp, h2⟩ => by
  subst ev
  exact q p H2 hp e2 h2
/-- xs + ys of two lists that may be written -/
theorem el_cat {p q : Addr} {xs ys : List V} (ha : Ev ta σ H (.ref p)) (hb : Ev tb σ H (.ref q)) (hp : H p = some (.lst xs)) (hq : H q = some (.lst ys)) (hz : xs.length + ys.length ≤ 100000) : EvL (tOp rCat ta tb) σ H (xs ++ ys) := fun H1 e Q k =>
  ha H1 e _ fun H2 e2 => hb H2 (e.trans e2) _ fun H3 e3 => ⟨p, q, xs, ys, rfl, rfl, ((e.trans e2).trans e3) _ _ hp, ((e.trans e2).trans e3) _ _ hq, sz_of hz, fun l hl => k l _ (fresh_back (e2.trans e3) hl) ((e2.trans e3).trans (Ex.new hl)) upd_same⟩
/-- xs + [..] -/
theorem el_catN {p : Addr} {xs ys : List V} (ha : Ev ta σ H (.ref p)) (hb : EvL tb σ H ys) (hp : H p = some (.lst xs)) (hz : xs.length + ys.length ≤ 100000) : EvL (tOp rCat ta tb) σ H (xs ++ ys) := fun H1 e Q k =>
  ha H1 e _ fun H2 e2 => hb H2 (e.trans e2) _ fun q H3 _ e3 hq => ⟨p, q, xs, ys, rfl, rfl, ((e.trans e2).trans e3) _ _ hp, hq, sz_of hz, fun l hl => k l _ (fresh_back (e2.trans e3) hl) ((e2.trans e3).trans (Ex.new hl)) upd_same⟩
/-- xs[::-1] -/
theorem el_rev {p : Addr} {xs : List V} (ha : Ev ta σ H (.ref p)) (hp : SqL K H p xs) : EvL (tRevL K ta) σ H xs.reverse := fun H1 e Q k =>
  ha H1 e _ fun H2 e2 => ⟨p, xs, rfl, ex_l (e.trans e2) hp, fun l hl => k l _ (fresh_back e2 hl) (e2.trans (Ex.new hl)) upd_same⟩
/-- built-ins of values -/
def rMin2 : List V → Hp → VK → Prop := fun xs H Q => ∃ i j, xs = [.int i, .int j] ∧ Q (.int (if j < i then j else i)) H
theorem ev_min2 {i j : Int} (ha : Ev ta σ H (.int i)) (hb : Ev tb σ H (.int j)) : Ev (tCB rMin2 (tCons ta (tCons tb tNil))) σ H (.int (if j < i then j else i)) := fun H1 e Q q =>
  ha H1 e _ fun H2 e2 => hb H2 (e.trans e2) _ fun H3 e3 => ⟨i, j, rfl, q H3 (e2.trans e3)⟩
theorem ev_any {bs : List Bool} (ha : EvL ta σ H (bs.map V.bl)) : Ev (tCB (rAny K) (tCons ta tNil)) σ H (.bl (bs.any id)) := fun H1 e Q q =>
  ha H1 e _ fun p H2 _ e2 h2 => ⟨p, bs, rfl, sq_of h2, q H2 e2⟩
theorem ev_all {bs : List Bool} (ha : EvL ta σ H (bs.map V.bl)) : Ev (tCB (rAll K) (tCons ta tNil)) σ H (.bl (bs.all id)) := fun H1 e Q q =>
  ha H1 e _ fun p H2 _ e2 h2 => ⟨p, bs, rfl, sq_of h2, q H2 e2⟩
end
end Sv
/-! The promises of the defs that reckon with a roll and a table. -/
namespace Sv
open PySem PySem.Spec PyProof.Rows L2 Evl
/-! ### lists by place -/
theorem atI_neg1 {α : Type} {xs : List α} {n : Nat} {v : α} (hl : xs.length = n + 1) (h : xs[n]? = some v) : atI xs (-1) = some v := by
  obtain ⟨h1, h2⟩ := List.getElem?_eq_some_iff.mp h
  have e : xs = xs.take n ++ [v] := by
    rw [← h2]
    have h3 := List.take_succ_eq_append_getElem h1
    rw [← h3, ← hl, List.take_length]
  rw [e]
  exact atI_last _ _
theorem map_get {α β : Type} {xs : List α} {f : α → β} {i : Nat} {y : β} (h : (xs.map f)[i]? = some y) : ∃ x, xs[i]? = some x ∧ y = f x := by
  rw [List.getElem?_map] at h
  cases e : xs[i]? with
  | none => rw [e] at h; cases h
  | some x => rw [e] at h; exact ⟨x, rfl, (Option.some.inj h).symm⟩
theorem get_map {α β : Type} {xs : List α} {f : α → β} {i : Nat} {x : α} (h : xs[i]? = some x) : (xs.map f)[i]? = some (f x) := by
  rw [List.getElem?_map, h]; rfl
theorem range_get {n j : Nat} (h : j < n) : (List.range n)[j]? = some j := by
  rw [List.getElem?_eq_getElem (by simpa using h)]
  simp
theorem lt_of_get {α : Type} {xs : List α} {i : Nat} {x : α} (h : xs[i]? = some x) : i < xs.length := (List.getElem?_eq_some_iff.mp h).1
theorem at_int {α : Type} {xs : List α} {f : α → V} {z : Int} {j : Nat} {x : α} (e : z = (j : Int)) (h : xs[j]? = some x) : atI (xs.map f) z = some (f x) := by
  rw [e]; exact atI_nat (get_map h)
/-! ### the data -/
abbrev Kd := Kind Str
def kindV (k : Kd) : List V := [.str k.name, .int k.width, .int k.worth, .int k.allowed]
def pieV (p : Nat × Str) : List V := [.int (p.1 : Int), .str p.2]
theorem kind_at1 (k : Kd) : atI (kindV k) 1 = some (.int k.width) := rfl
theorem kind_at0 (k : Kd) : atI (kindV k) 0 = some (.str k.name) := rfl
theorem kind_at2 (k : Kd) : atI (kindV k) 2 = some (.int k.worth) := rfl
theorem kind_at3 (k : Kd) : atI (kindV k) 3 = some (.int k.allowed) := rfl
theorem pie_at0 (p : Nat × Str) : atI (pieV p) 0 = some (.int (p.1 : Int)) := rfl
theorem pie_at1 (p : Nat × Str) : atI (pieV p) 1 = some (.str p.2) := rfl
abbrev TabL (K : PySem.W.Frag) (H : Hp) (a : Addr) (tab : List Kd) : Prop := RowsL K H a (tab.map kindV)
abbrev PieL (K : PySem.W.Frag) (H : Hp) (a : Addr) (ps : List (Nat × Str)) : Prop := RowsL K H a (ps.map pieV)
abbrev PieN (K : PySem.W.Frag) (H : Hp) (a : Addr) (ps : List (Nat × Str)) : Prop := RowsN K H a (ps.map pieV)
def sums (ns : List Int) : List Int := (List.range (ns.length + 1)).map (sm ns)
theorem sums_len (ns : List Int) : (sums ns).length = ns.length + 1 := by simp [sums]
theorem sums_get {ns : List Int} {j : Nat} (h : j ≤ ns.length) : (sums ns)[j]? = some (sm ns j) := get_map (range_get (by omega))
theorem sums_at {ns : List Int} {j : Nat} {z : Int} (e : z = (j : Int)) (h : j ≤ ns.length) : atI ((sums ns).map V.int) z = some (.int (sm ns j)) := at_int e (sums_get h)
theorem hl_at {ns : List Int} {tab : List Kd} {n j : Nat} {z : Int} (e : z = (j : Int)) (h : j ≤ n) : atI ((hlist ns tab n).map V.int) z = some (.int (hgt ns tab j)) := at_int e (hlist_get h)
theorem hl_last (ns : List Int) (tab : List Kd) (n : Nat) : atI ((hlist ns tab n).map V.int) (-1) = some (.int (hgt ns tab n)) :=
  atI_neg1 (n := n) (by rw [List.length_map, hlist_length]) (get_map (hlist_get (Nat.le_refl n)))
def backs (b : Nat → Nat) (n : Nat) : List Int := (List.range (n + 1)).map fun e => ((b e : Nat) : Int)
theorem backs_get {b : Nat → Nat} {n j : Nat} (h : j ≤ n) : (backs b n)[j]? = some ((b j : Nat) : Int) := get_map (f := fun e => ((b e : Nat) : Int)) (range_get (by omega))
/-- the law's row of a place -/
def backR (ns : List Int) (tab : List Kd) (e : Nat) : Nat × Str := ((bk ns tab e).1, (bk ns tab e).2.getD Str.empty)
def backRs (ns : List Int) (tab : List Kd) : List (Nat × Str) := (List.range (ns.length + 1)).map (backR ns tab)
theorem backRs_get {ns : List Int} {tab : List Kd} {j : Nat} (h : j ≤ ns.length) : (backRs ns tab)[j]? = some (backR ns tab j) := get_map (range_get (by omega))
def nVs (l : List Nat) : List V := l.map fun (n : Nat) => V.int (n : Int)
/-! ### the promises -/
section
variable (K : PySem.W.Frag)
def sp_running_sums : Sp := fun vs H Q _ => ∃ (a : Addr) (ns : List Int), vs = [.ref a] ∧ SqL K H a (ns.map V.int) ∧ ns.length ≤ 200 ∧ RetL ((sums ns).map V.int) H Q
def sp_law_sums : Sp := sp_running_sums K
def sp_ends_well : Sp := fun vs H Q _ => ∃ (s t : Addr) (e : Nat) (ns : List Int) (k : Kd), vs = [.ref s, .ref t, .int e] ∧ SqL K H s ((sums ns).map V.int) ∧ SqT K H t (kindV k) ∧ e ≤ ns.length ∧ RetV (.bl (good ns k e)) H Q
def sp_law_good : Sp := fun vs H Q _ => ∃ (s t : Addr) (z : Int) (e : Nat) (ns : List Int) (k : Kd), vs = [.ref s, .ref t, .int z] ∧ SqL K H s ((sums ns).map V.int) ∧ SqT K H t (kindV k) ∧ e ≤ ns.length ∧ z = (e : Int) - (k.width : Int) ∧ RetV (.bl (good ns k e)) H Q
def sp_heights : Sp := fun vs H Q _ => ∃ (a b : Addr) (ns : List Int) (tab : List Kd), vs = [.ref a, .ref b] ∧ SqL K H a (ns.map V.int) ∧ TabL K H b tab ∧ ns.length ≤ 200 ∧ Wide tab ∧ RetL ((hlist ns tab ns.length).map V.int) H Q
def sp_law_heights : Sp := sp_heights K
/-- asked where there is such a kind -/
def sp_last_kind : Sp := fun vs H Q _ => ∃ (s h b : Addr) (e : Nat) (ns : List Int) (tab : List Kd) (k : Kd), vs = [.ref s, .ref h, .ref b, .int e] ∧ SqL K H s ((sums ns).map V.int) ∧ SqL K H h ((hlist ns tab ns.length).map V.int) ∧ TabL K H b tab ∧ e ≤ ns.length ∧
  lastK ns tab e = some k ∧ ∀ t H2, Ex H H2 → SqT K H2 t (kindV k) → Q (.ref t) H2
def sp_cutting_told : Sp := fun vs H Q _ => ∃ (a b : Addr) (e : Nat) (ns : List Int) (tab : List Kd), vs = [.ref a, .ref b, .int e] ∧ SqL K H a (ns.map V.int) ∧ TabL K H b tab ∧ ns.length ≤ 200 ∧ Wide tab ∧ e ≤ ns.length ∧
  ∀ t c s H2, H c = none → Ex H H2 → H2 t = some (.tup [.ref c, .ref s]) → PieN K H2 c (cut ns tab e) → Q (.ref t) H2
def sp_best : Sp := fun vs H Q _ => ∃ (a b : Addr) (ns : List Int) (tab : List Kd), vs = [.ref a, .ref b] ∧ SqL K H a (ns.map V.int) ∧ TabL K H b tab ∧ ns.length ≤ 200 ∧ Wide tab ∧
  ∀ t z c H2, H c = none → Ex H H2 → H2 t = some (.tup [.int z, .ref c]) → PieN K H2 c (told ns tab) → Q (.ref t) H2
def sp_steps_back : Sp := fun vs H Q _ => ∃ (a b : Addr) (ns : List Int) (tab : List Kd), vs = [.ref a, .ref b] ∧ SqL K H a (ns.map V.int) ∧ TabL K H b tab ∧ ns.length ≤ 200 ∧ Wide tab ∧ RetL ((backs (back ns tab) ns.length).map V.int) H Q
def sp_meeting_place : Sp := fun vs H Q _ => ∃ (a : Addr) (x y n : Nat) (b : Nat → Nat), vs = [.ref a, .int x, .int y] ∧ SqL K H a ((backs b n).map V.int) ∧ (∀ e, 0 < e → b e < e) ∧ x ≤ n ∧ y ≤ n ∧ RetV (.int ((meet b x y : Nat) : Int)) H Q
def sp_law_back : Sp := fun vs H Q _ => ∃ (a b : Addr) (ns : List Int) (tab : List Kd), vs = [.ref a, .ref b] ∧ SqL K H a (ns.map V.int) ∧ TabL K H b tab ∧ ns.length ≤ 200 ∧ tab.length ≤ 100 ∧ Wide tab ∧ RetG (NewR K ((backRs ns tab).map pieV)) H Q
def sp_law_cut : Sp := fun vs H Q _ => ∃ (a : Addr) (e : Nat) (ns : List Int) (tab : List Kd), vs = [.ref a, .int e] ∧ PieL K H a (backRs ns tab) ∧ ns.length ≤ 200 ∧ Wide tab ∧ (∀ k ∈ tab, k.name ≠ Str.empty) ∧ e ≤ ns.length ∧ RetG (NewR K ((cut ns tab e).map pieV)) H Q
def sp_law_starts : Sp := fun vs H Q _ => ∃ (a b : Addr) (ns : List Int) (tab : List Kd), vs = [.ref a, .ref b] ∧ SqL K H a (ns.map V.int) ∧ TabL K H b tab ∧ ns.length ≤ 200 ∧ Wide tab ∧ RetL (nVs (starts ns tab)) H Q
def sp_law_stops : Sp := fun vs H Q _ => ∃ (a : Addr) (e : Nat) (ns : List Int) (tab : List Kd), vs = [.ref a, .int e] ∧ PieL K H a (backRs ns tab) ∧ ns.length ≤ 200 ∧ Wide tab ∧ e ≤ ns.length ∧ RetL (nVs (stops (back ns tab) e)) H Q
def sp_law_settled : Sp := fun vs H Q _ => ∃ (a s : Addr) (ns : List Int) (tab : List Kd), vs = [.ref a, .ref s] ∧ PieL K H a (backRs ns tab) ∧ SqL K H s (nVs (starts ns tab)) ∧ ns.length ≤ 200 ∧ Wide tab ∧ RetV (.int ((settled ns tab : Nat) : Int)) H Q
def sp_law_sure : Sp := fun vs H Q _ => ∃ (a b : Addr) (ns : List Int) (tab : List Kd), vs = [.ref a, .ref b] ∧ SqL K H a (ns.map V.int) ∧ TabL K H b tab ∧ ns.length ≤ 200 ∧ tab.length ≤ 100 ∧ Wide tab ∧ (∀ k ∈ tab, k.name ≠ Str.empty) ∧
  ∀ t c H2, H c = none → Ex H H2 → H2 t = some (.tup [.int ((settled ns tab : Nat) : Int), .ref c]) → PieN K H2 c (sure ns tab) → Q (.ref t) H2
end
end Sv
/-! More words: lists that grow, rows, comprehensions over rows. -/
namespace Sv
open PySem PySem.Spec PyProof.Rows L2 Evl
instance : Inhabited Kd := ⟨⟨Str.empty, 0, 0, 0⟩⟩
theorem A2.of_map {α β γ : Type} {R : α → γ → Prop} {f : β → γ} : ∀ {as : List α} {bs : List β}, A2 R as (bs.map f) → A2 (fun a b => R a (f b)) as bs
  | _, [], h => by cases h; exact .nil
  | _, b :: bs, h => by
    cases h with
    | cons h t => exact .cons h (A2.of_map t)
theorem A2.map {α β γ : Type} {R : α → γ → Prop} {f : β → γ} {as : List α} {bs : List β} (h : A2 (fun a b => R a (f b)) as bs) : A2 R as (bs.map f) := by
  induction h with
  | nil => exact .nil
  | cons h _ ih => exact .cons h ih
/-- all but the object at l is as it was -/
def ExB (l : Addr) (H H' : Hp) : Prop := ∀ a o, H a = some o → a ≠ l → H' a = some o
theorem Ex.b {H H' : Hp} (e : Ex H H') (l : Addr) : ExB l H H' := fun a o h _ => e a o h
theorem ExB.trans {l : Addr} {H H1 H2 : Hp} (a : ExB l H H1) (b : ExB l H1 H2) : ExB l H H2 := fun c o h n => b c o (a c o h n) n
theorem ExB.upd {l : Addr} {H H' : Hp} (e : ExB l H H') (o : HO) : ExB l H (L2.upd H' l o) := fun a u h n => by
  rw [upd_ne n]
  exact e a u h n
theorem ExB.ex {l : Addr} {H0 H H' : Hp} (b : ExB l H H') (e : Ex H0 H) (hl : H0 l = none) : Ex H0 H' := fun a o h => b a o (e a o h) (ne_of_none h hl)
/-- what is known of the objects of H0, none of which is l -/
theorem ExB.seq {K : PySem.W.Frag} {l a : Addr} {H H' : Hp} {xs : List V} (b : ExB l H H') (h : SqL K H a xs) (n : a ≠ l) : SqL K H' a xs := by
  rcases h with (h | ⟨o, h⟩) | h
  · exact .inl (.inl (b _ _ h n))
  · exact .inl (.inr ⟨o, b _ _ h n⟩)
  · exact .inr h
/-- a tuple is none of the lists -/
theorem ExB.tup {K : PySem.W.Frag} {l a : Addr} {H H' : Hp} {xs ys : List V} (b : ExB l H H') (h : SqT K H a xs) (hl : H l = some (.lst ys)) : SqT K H' a xs := by
  rcases h with (h | ⟨o, h⟩) | h
  · exact .inl (.inl (b _ _ h fun e => by rw [e, hl] at h; cases h))
  · exact .inl (.inr ⟨o, b _ _ h fun e => by rw [e, hl] at h; cases h⟩)
  · exact .inr h
theorem ExB.rowsN {K : PySem.W.Frag} {l a : Addr} {H H' : Hp} {rows : List (List V)} {ys : List V} (b : ExB l H H') (h : RowsN K H a rows) (hl : H l = some (.lst ys)) (n : a ≠ l) : RowsN K H' a rows := by
  obtain ⟨ts, h1, h2⟩ := h
  exact ⟨ts, b _ _ h1 n, h2.mono fun _ _ q => b.tup q hl⟩
section
variable {K : PySem.W.Frag} {σ : L2.St} {H H' : Hp} {ta tb te tx : TE} {t u : TT} {x y z v : V} {r : R2} {D : Ends} {tu tw tz : TS} {P P' : Hp → V → Hp → Prop}
theorem q_ifK {b : Bool} (M : L2.St → Hp → Prop) (h : EvT t σ H b) (h1 : (∀ σ' H', M σ' H' → tz D σ' H') → b = true → ∀ H1, Ex H H1 → tu { D with nx := tz D } σ H1) (h2 : (∀ σ' H', M σ' H' → tz D σ' H') → b = false → ∀ H1, Ex H H1 → tw { D with nx := tz D } σ H1)
    (k : ∀ σ' H', M σ' H' → tz D σ' H') : tSeq (tIfS t tu tw) tz D σ H := q_if h (h1 k) (h2 k)
/-! ### append -/
theorem s_appV {l : Addr} {xs : List V} (hl : H l = some (.lst xs)) (ha : Ev ta σ H (.ref l)) (h : Ev te σ H v) (hz : xs.length < 100000) (k : ∀ H1, ExB l H H1 → H1 l = some (.lst (xs ++ [v])) → D.nx σ H1) :
    tDrop (tBM K "list" rAppend ta (tCons te tNil)) D σ H := s_app hl ha h hz fun H1 e1 => k _ ((Ex.b e1 l).upd _) upd_same
theorem q_appV {l : Addr} {xs : List V} (hl : H l = some (.lst xs)) (ha : Ev ta σ H (.ref l)) (h : Ev te σ H v) (hz : xs.length < 100000) (k : ∀ H1, ExB l H H1 → H1 l = some (.lst (xs ++ [v])) → tz D σ H1) :
    tSeq (tDrop (tBM K "list" rAppend ta (tCons te tNil))) tz D σ H := s_appV (D := { D with nx := tz D }) hl ha h hz k
/-- a new tuple at the end of the rows -/
theorem s_appR {l : Addr} {rows : List (List V)} {row : List V} (hl : RowsN K H l rows) (ha : Ev ta σ H (.ref l)) (h : EvU te σ H row) (hz : rows.length < 100000) (k : ∀ H1, ExB l H H1 → RowsN K H1 l (rows ++ [row]) → D.nx σ H1) :
    tDrop (tBM K "list" rAppend ta (tCons te tNil)) D σ H := by
  obtain ⟨ts, h1, h2⟩ := hl
  refine s_appU h1 ha h (by rw [List.length_map, h2.length]; exact hz) fun p H1 hp e1 hp1 => ?_
  have hl1 := e1 _ _ h1
  refine k _ ((Ex.b e1 l).upd _) ⟨ts ++ [p], by rw [upd_same, List.map_append]; rfl, ?_⟩
  exact ((h2.mono fun _ _ q => sqt_lst (ex_t e1 q) hl1 _)).snoc (sqt_lst (st_of hp1) hl1 _)
theorem q_appR {l : Addr} {rows : List (List V)} {row : List V} (hl : RowsN K H l rows) (ha : Ev ta σ H (.ref l)) (h : EvU te σ H row) (hz : rows.length < 100000) (k : ∀ H1, ExB l H H1 → RowsN K H1 l (rows ++ [row]) → tz D σ H1) :
    tSeq (tDrop (tBM K "list" rAppend ta (tCons te tNil))) tz D σ H := s_appR (D := { D with nx := tz D }) hl ha h hz k
/-- [(..)] -/
theorem eg_lst1 {row : List V} (h : EvU te σ H row) : EvG (tLst (tCons te tNil)) σ H (NewR K [row]) := fun H1 e Q q =>
  h H1 e _ fun p H2 hp e2 h2 => ⟨by show 1 ≤ sizeLine; decide, fun l hl => q _ _ (e2.trans (Ex.new hl)) ⟨l, rfl, fresh_back e2 hl, [p], upd_same, .cons (sqt_new (st_of h2) hl _) .nil⟩⟩
theorem eg_lst0 : EvG (tLst tNil) σ H (NewR K []) := fun H1 e Q q =>
  ⟨by show 0 ≤ sizeLine; decide, fun l hl => q _ _ (Ex.new hl) ⟨l, rfl, hl, [], upd_same, .nil⟩⟩
/-- xs[::-1] of rows, xs[a:b] -/
theorem eg_revR {p : Addr} {rows : List (List V)} (ha : Ev ta σ H (.ref p)) (hp : RowsL K H p rows) : EvG (tRevL K ta) σ H (NewR K rows.reverse) := by
  obtain ⟨ts, h1, h2⟩ := hp
  intro H1 e Q q
  refine el_rev ha h1 H1 e Q fun l H2 hl e2 h3 => q _ H2 e2 ⟨l, rfl, hl, ts.reverse, ?_, (h2.mono fun _ _ z => ex_t (e.trans e2) z).reverse⟩
  rw [h3, ← List.map_reverse]
/-- calls with a new object as an argument -/
theorem ev_callG1 {sp : Sp} {dvs : List V} {E : XK} (hb : EvG tb σ H P) (hs : ∀ H1 v H2, Ex H H1 → P H1 v H2 → Ex H1 H2 → SpV sp ([v] ++ dvs) H2 z) : Ev (tCall sp dvs E (tCons tb tNil)) σ H z := fun H1 e Q q =>
  hb H1 e _ fun v H2 e2 p => hs H1 v H2 e p e2 H2 (Ex.refl _) Q (fun H3 e3 => q H3 (e2.trans e3)) E
theorem ev_callG2 {sp : Sp} {dvs : List V} {E : XK} (ha : Ev ta σ H x) (hb : EvG tb σ H P) (hs : ∀ H1 v H2, Ex H H1 → P H1 v H2 → Ex H1 H2 → SpV sp ([x, v] ++ dvs) H2 z) : Ev (tCall sp dvs E (tCons ta (tCons tb tNil))) σ H z := fun H1 e Q q =>
  ha H1 e _ fun H1' e1 => hb H1' (e.trans e1) _ fun v H2 e2 p => hs H1' v H2 (e.trans e1) p e2 H2 (Ex.refl _) Q (fun H3 e3 => q H3 ((e1.trans e2).trans e3)) E
theorem eg_callG1 {sp : Sp} {dvs : List V} {E : XK} (hb : EvG tb σ H P) (hs : ∀ H1 v H2, Ex H H1 → P H1 v H2 → Ex H1 H2 → SpG sp ([v] ++ dvs) H2 P') (hP : ∀ H1 H2 v H3, Ex H1 H2 → P' H2 v H3 → P' H1 v H3) : EvG (tCall sp dvs E (tCons tb tNil)) σ H P' := fun H1 e Q q =>
  hb H1 e _ fun v H2 e2 p => hs H1 v H2 e p e2 H2 (Ex.refl _) Q (fun w H3 e3 pw => q w H3 (e2.trans e3) (hP _ _ _ _ e2 pw)) E
/-- return (a, b) -/
theorem s_retTup2 (ha : EvG ta σ H P) (hb : EvG tb σ H P') (k : ∀ v w H1 H2 p, Ex H H1 → P H v H1 → Ex H1 H2 → P' H1 w H2 → H2 p = none → D.rt (.ref p) (upd H2 p (.tup [v, w]))) : tRet (tTup (tCons ta (tCons tb tNil))) D σ H :=
  ha H (Ex.refl H) _ fun v H1 e1 p1 => hb H1 e1 _ fun w H2 e2 p2 => ⟨(by show 2 ≤ sizeLine; decide), fun p hp => k v w H1 H2 p e1 p1 e2 p2 hp⟩
/-! ### targets of two names -/
theorem q_asgT2 {i j : Nat} {a : Addr} (h : Ev te σ H (.ref a)) (ht : SqT K H a [x, y]) (k : ∀ H1, Ex H H1 → tz D ((σ.set i (some x)).set j (some y)) H1) : tSeq (tAsg te (gTup K 2 (gCons (gName i) (gCons (gName j) gNil)))) tz D σ H :=
  h H (Ex.refl H) _ fun H1 e => ⟨a, [x, y], rfl, ex_t e ht, rfl, x, [y], rfl, y, [], rfl, rfl, k H1 e⟩
theorem q_asgT2G {i j : Nat} (h : EvG te σ H P) (ht : ∀ v H1, Ex H H1 → P H v H1 → ∃ a, v = .ref a ∧ ∃ x y, SqT K H1 a [x, y] ∧ tz D ((σ.set i (some x)).set j (some y)) H1) : tSeq (tAsg te (gTup K 2 (gCons (gName i) (gCons (gName j) gNil)))) tz D σ H :=
  h H (Ex.refl H) _ fun v H1 e p => by
    obtain ⟨a, rfl, x, y, h1, h2⟩ := ht v H1 e p
    exact ⟨a, [x, y], rfl, h1, rfl, x, [y], rfl, y, [], rfl, rfl, h2⟩
end
/-! ### comprehensions that keep some of the rows -/
theorem range_zip {α β : Type} (da : α) (db : β) : ∀ {as : List α} {bs : List β}, as.length = bs.length → (List.range as.length).map (fun i => (as.getD i da, bs.getD i db)) = as.zip bs
  | [], [], _ => rfl
  | a :: as, b :: bs, h => by
    have ih := range_zip da db (as := as) (bs := bs) (by simpa using h)
    rw [List.length_cons, List.range_succ_eq_map, List.map_cons, List.map_map, List.zip_cons_cons, ← ih]
    congr 1
theorem given_zip {α β : Type} (da : α) (db : β) {as : List α} {bs : List β} (h : as.length = bs.length) (p : β → Bool) (f : α → V) :
    given as.length (fun i => p (bs.getD i db)) (fun i => f (as.getD i da)) = (((as.zip bs).filter fun q => p q.2).map fun q => f q.1) := by
  unfold given
  rw [← range_zip da db h, List.filter_map, List.map_map]
  rfl
theorem A2.filter {α β : Type} {R : α → β → Prop} (p : β → Bool) {as : List α} {bs : List β} (h : A2 R as bs) : A2 R (((as.zip bs).filter fun q => p q.2).map (·.1)) (bs.filter p) := by
  induction h with
  | nil => exact .nil
  | @cons a b as bs h t ih =>
    rw [List.zip_cons_cons, List.filter_cons, List.filter_cons]
    by_cases hp : p b = true
    · rw [if_pos hp, if_pos hp, List.map_cons]
      exact .cons h ih
    · rw [if_neg hp, if_neg hp]
      exact ih
theorem A2.given {α β : Type} {R : α → β → Prop} (da : α) (db : β) {as : List α} {bs : List β} (h : A2 R as bs) (p : β → Bool) (f : α → V) : ∃ ts : List α, given as.length (fun i => p (bs.getD i db)) (fun i => f (as.getD i da)) = ts.map f ∧ A2 R ts (bs.filter p) :=
  ⟨_, by rw [given_zip da db h.length, List.map_map]; rfl, h.filter p⟩
section
variable {K : PySem.W.Frag} {σ : L2.St} {H H' : Hp} {tl : TE} {t : TT} {j : Nat} {vs : List Nat}
/-- [x for x in rows if ..] -/
theorem eg_keep {β : Type} [Inhabited β] {rf : β → List V} {a : Addr} {bs : List β} (p : β → Bool) (h : Ev tl σ H (.ref a)) (hx : RowsL K H a (bs.map rf)) (hz : bs.length ≤ 40000) (hw : ∀ x, wipe ((wipe σ vs).set j (some x)) vs = wipe σ vs) (hj : ∀ x, ((wipe σ vs).set j (some x))[j]? = some (some x))
    (ht : ∀ (b : β) (tk : Addr) H1, Ex H H1 → b ∈ bs → SqT K H1 tk (rf b) → EvT t ((wipe σ vs).set j (some (.ref tk))) H1 (p b)) : EvG (tLc (iList K tl) (gName j) t (tVar j) vs) σ H (NewR K ((bs.filter p).map rf)) := by
  obtain ⟨ts, hL, hA0⟩ := hx
  have hA := hA0.of_map
  intro H0 e Q q
  have hln : (ts.map V.ref).length = ts.length := List.length_map ..
  have hg := el_lcL (K := K) (tl := tl) (t := t) (te := tVar j) (j := j) (vs := vs) (fun i => p (bs.getD i default)) (fun i => V.ref (ts.getD i 0)) h hL (by rw [hln, hA.length]; exact hz) hw (fun i x H1 e1 hi => ?_) (fun i x H1 e1 hi _ => ?_)
  · rw [hln] at hg
    obtain ⟨ts', e', hA'⟩ := hA.given (0 : Addr) default p V.ref
    rw [e'] at hg
    refine hg H0 e Q fun D H1 hD e1 hd => q _ H1 e1 ⟨D, rfl, hD, ts', hd, A2.map (hA'.mono fun _ _ z => ex_t (e.trans e1) z)⟩
  · obtain ⟨tk, htk, rfl⟩ := map_get hi
    obtain ⟨b, hb, hT⟩ := hA.get' htk
    have e2 : bs.getD i default = b := by rw [List.getD_eq_getElem?_getD, hb]; rfl
    rw [e2]
    exact ht b tk H1 e1 (List.mem_of_getElem? hb) (ex_t e1 hT)
  · obtain ⟨tk, htk, rfl⟩ := map_get hi
    have e2 : ts.getD i 0 = tk := by rw [List.getD_eq_getElem?_getD, htk]; rfl
    rw [e2]
    exact ev_var (hj _)
end
end Sv
/-! Dicts: stores, reads, a comprehension over the keys; counting. -/
namespace Sv
open PySem PySem.Spec PyProof.Rows L2 Evl
section
variable {K : PySem.W.Frag} {σ : L2.St} {H H' : Hp} {ta td ty tv tx te : TE} {t u : TT} {x y z v : V} {r : R2} {D : Ends} {tu tw tz : TS} {d : Addr} {kvs : List (Key × V)} {k : Key}
theorem s_dput (hv : Ev tv σ H v) (hd : Ev td σ H (.ref d)) (hy : Ev ty σ H (kV k)) (h : H d = some (.dK kvs)) (hz : kvs.length < 100000) (q : ∀ H1, ExB d H H1 → H1 d = some (.dK (putK kvs k v)) → D.nx σ H1) : sDPut td ty tv D σ H :=
  hv H (Ex.refl H) _ fun H1 e1 => hd H1 e1 _ fun H2 e2 => hy H2 (e1.trans e2) _ fun H3 e3 => ⟨d, _, rfl, DPut.k (((e1.trans e2).trans e3) _ _ h) (sz_lt hz), q _ ((Ex.b ((e1.trans e2).trans e3) d).upd _) upd_same⟩
theorem q_dput (hv : Ev tv σ H v) (hd : Ev td σ H (.ref d)) (hy : Ev ty σ H (kV k)) (h : H d = some (.dK kvs)) (hz : kvs.length < 100000) (q : ∀ H1, ExB d H H1 → H1 d = some (.dK (putK kvs k v)) → tz D σ H1) : tSeq (sDPut td ty tv) tz D σ H := s_dput (D := { D with nx := tz D }) hv hd hy h hz q
theorem ev_dget2 (hd : Ev td σ H (.ref d)) (hy : Ev ty σ H (kV k)) (hx : Ev tx σ H z) (h : H d = some (.dK kvs)) : Ev (tDGet2 td ty tx) σ H ((valV kvs k).getD z) := fun H1 e Q q =>
  hd H1 e _ fun H2 e2 => ⟨d, rfl, .inl ⟨kvs, .inl ((e.trans e2) _ _ h)⟩, hy H2 (e.trans e2) _ fun H3 e3 => hx H3 ((e.trans e2).trans e3) _ fun H4 e4 => ⟨_, DGet.k ((((e.trans e2).trans e3).trans e4) _ _ h), q H4 ((e2.trans e3).trans e4)⟩⟩
theorem ev_dget (hd : Ev td σ H (.ref d)) (hy : Ev ty σ H (kV k)) (h : Rd H d (.dK kvs)) (hk : valV kvs k = some v) : Ev (tDGet td ty) σ H v := fun H1 e Q q =>
  hd H1 e _ fun H2 e2 => hy H2 (e.trans e2) _ fun H3 e3 => ⟨d, v, rfl, .inl ⟨kvs, k, ex_rd ((e.trans e2).trans e3) h, rfl, hk.symm⟩, q H3 (e2.trans e3)⟩
theorem q_dnew {i : Nat} (k : ∀ p H1, H p = none → Ex H H1 → H1 p = some (.dK []) → tz D (σ.set i (some (.ref p))) H1) : tSeq (tAsg tDNewK (gName i)) tz D σ H := fun p hp => k p _ hp (Ex.new hp) upd_same
end
/-- a comprehension over a locked dict's keys -/
theorem lc_keys {d : Addr} {od : Obj} {kvs : List (Key × V)} {g : TG} {tt : TT} {te : TE} {vs : List Nat} {σ : L2.St} {H1 : Hp} {D : Addr} {Qd : Hp → Prop} (Pv : Nat → Hp → Prop) (h0 : Pv 0 (upd H1 D (.lst []))) (hl : ∀ i H, i ≤ kvs.length → Pv i H → H d = some (.frz od (.dK kvs)))
    (hs : ∀ i k v H, kvs[i]? = some (k, v) → Pv i H → g (kV k) (wipe σ vs) H fun σ2 H2 => wipe σ2 vs = wipe σ vs ∧ tt σ2 H2 fun b H3 =>
      if b = true then te σ2 H3 fun y H4 => ∃ acc, H4 D = some (.lst acc) ∧ acc.length < sizeLine ∧ Pv (i + 1) (upd H4 D (.lst (acc ++ [y]))) else Pv (i + 1) H3) (hd : ∀ H, Pv kvs.length H → Qd H) :
    ∃ W : Nat → Nat → Hp → Prop, (∃ m, W 0 m (upd H1 D (.lst []))) ∧ ∀ i m H, W i m H →
      ((Itk d od kvs).stop i H ∧ Qd H) ∨ ((Itk d od kvs).go i H ∧ ∃ Nx : Hp → Prop, (∀ H', Nx H' → ∃ m', m' < m ∧ W (i + 1) m' H') ∧ ∀ x H', (Itk d od kvs).yld i H x H' → g x (wipe σ vs) H' fun σ2 H2 => wipe σ2 vs = wipe σ vs ∧ tt σ2 H2 fun b H3 =>
        if b = true then te σ2 H3 fun y H4 => ∃ acc, H4 D = some (.lst acc) ∧ acc.length < sizeLine ∧ Nx (upd H4 D (.lst (acc ++ [y]))) else Nx H3) := by
  refine ⟨fun i m H => m = kvs.length - i ∧ i ≤ kvs.length ∧ Pv i H, ⟨kvs.length, by simp, Nat.zero_le _, h0⟩, ?_⟩
  rintro i m H ⟨rfl, hi, p⟩
  have q := hl i H hi p
  by_cases hlt : i < kvs.length
  · refine .inr ⟨⟨q, hlt⟩, Pv (i + 1), fun H' p' => ⟨kvs.length - (i + 1), by omega, rfl, hlt, p'⟩, fun x H' y => ?_⟩
    obtain ⟨e, k, v, hk, e2⟩ := y
    subst e e2
    exact hs i k v _ hk p
  · have e : i = kvs.length := by omega
    subst e
    exact .inl ⟨⟨q, Nat.le_refl _⟩, hd H p⟩
/-! ### counting, plainly -/
theorem count_flat {α β : Type} [DecidableEq β] {f : α → List β} (hn : ∀ x, (f x).Nodup) (s : β) : ∀ l : List α, (l.flatMap f).count s ≤ l.length ∧ ((l.flatMap f).count s = l.length ↔ ∀ x ∈ l, s ∈ f x)
  | [] => by simp
  | x :: l => by
    obtain ⟨h1, h2⟩ := count_flat hn s l
    rw [List.flatMap_cons, List.count_append, List.length_cons]
    have hc : (f x).count s ≤ 1 := List.nodup_iff_count.mp (hn x) s
    have hc2 : (f x).count s = 1 ↔ s ∈ f x := by
      rw [← List.count_pos_iff]
      omega
    refine ⟨by omega, ?_⟩
    constructor
    · intro h y hy
      have h3 : (f x).count s = 1 := by omega
      have h4 : (l.flatMap f).count s = l.length := by omega
      rcases List.mem_cons.mp hy with rfl | hy
      · exact hc2.mp h3
      · exact h2.mp h4 y hy
    · intro h
      have h3 := hc2.mpr (h x List.mem_cons_self)
      have h4 := h2.mpr fun y hy => h y (List.mem_cons_of_mem _ hy)
      omega
/-- what the dict holds behind some stops -/
structure Held (kvs : List (Key × V)) (all : List Nat) : Prop where
  ks : ∃ ks : List Nat, kvs.map (·.1) = ks.map (fun (s : Nat) => (Sum.inl (s : Int) : Key)) ∧ ∀ s, s ∈ ks ↔ s ∈ all
  val : ∀ s : Nat, valV kvs (Sum.inl (s : Int)) = if s ∈ all then some (.int (all.count s : Int)) else none
  len : kvs.length ≤ all.length
theorem Held.nil : Held [] [] := ⟨⟨[], rfl, fun _ => Iff.rfl⟩, fun s => by simp [valV], Nat.le_refl _⟩
theorem keys_put (kvs : List (Key × V)) (k : Key) (v : V) : (putK kvs k v).map (·.1) = if (valV kvs k).isSome = true then kvs.map (·.1) else kvs.map (·.1) ++ [k] := by
  unfold putK
  rw [valV_any]
  split
  · rw [List.map_map]
    refine List.map_congr_left fun kv _ => ?_
    show (if kv.1 = k then (kv.1, v) else kv).1 = kv.1
    split <;> rfl
  · rw [List.map_append]
    rfl
theorem Held.put {kvs : List (Key × V)} {all : List Nat} (h : Held kvs all) (s : Nat) : Held (putK kvs (Sum.inl (s : Int)) (.int ((all.count s : Nat) + 1 : Int))) (all ++ [s]) := by
  obtain ⟨⟨ks, hk1, hk2⟩, hv, hl⟩ := h
  have hkp := keys_put kvs (Sum.inl (s : Int)) (.int ((all.count s : Nat) + 1 : Int))
  rw [hv s] at hkp
  by_cases hs : s ∈ all
  · rw [if_pos hs] at hkp
    refine ⟨⟨ks, by rw [hkp]; simpa using hk1, fun x => ?_⟩, fun x => ?_, ?_⟩
    · rw [hk2 x, List.mem_append, List.mem_singleton]
      exact ⟨Or.inl, fun q => q.elim id fun e => e ▸ hs⟩
    · rw [valV_put]
      by_cases hx : x = s
      · subst hx
        rw [if_pos rfl, if_pos (by simp)]
        simp
      · have hne : ¬ (Sum.inl (x : Int) : Key) = Sum.inl (s : Int) := fun q => hx (Int.ofNat.inj (Sum.inl.inj q))
        rw [if_neg hne, hv x, List.count_append]
        have hc : List.count x [s] = 0 := by
          rw [List.count_singleton]
          simp
          omega
        rw [hc]
        by_cases hx2 : x ∈ all
        · rw [if_pos hx2, if_pos (List.mem_append_left _ hx2)]
          rfl
        · rw [if_neg hx2, if_neg (by simp [hx2, hx])]
    · have hlen : (putK kvs (Sum.inl (s : Int)) (.int ((all.count s : Nat) + 1 : Int))).length = kvs.length := by
        have h2 := congrArg List.length hkp
        simpa using h2
      rw [hlen]
      simp
      omega
  · rw [if_neg hs] at hkp
    refine ⟨⟨ks ++ [s], by rw [hkp, List.map_append, ← hk1]; simp, fun x => ?_⟩, fun x => ?_, ?_⟩
    · rw [List.mem_append, List.mem_append, hk2 x]
    · rw [valV_put]
      by_cases hx : x = s
      · subst hx
        rw [if_pos rfl, if_pos (by simp)]
        simp
      · have hne : ¬ (Sum.inl (x : Int) : Key) = Sum.inl (s : Int) := fun q => hx (Int.ofNat.inj (Sum.inl.inj q))
        rw [if_neg hne, hv x, List.count_append]
        have hc : List.count x [s] = 0 := by
          rw [List.count_singleton]
          simp
          omega
        rw [hc]
        by_cases hx2 : x ∈ all
        · rw [if_pos hx2, if_pos (List.mem_append_left _ hx2)]
          rfl
        · rw [if_neg hx2, if_neg (by simp [hx2, hx])]
    · have hlen : (putK kvs (Sum.inl (s : Int)) (.int ((all.count s : Nat) + 1 : Int))).length = kvs.length + 1 := by
        have h2 := congrArg List.length hkp
        simpa using h2
      rw [hlen]
      simp
      omega
end Sv
/-! A feed: its data, its methods' promises. -/
namespace Sv
open PySem PySem.Spec PyProof.Rows L2 Evl
theorem lk_here {k : Str} {v : V} {r : List (Str × V)} : List.lookup k ((k, v) :: r) = some v := by
  have e : (k == k) = true := beq_self_eq_true k
  simp only [List.lookup, e]
theorem lk_past {k g : Str} {v : V} {r : List (Str × V)} (h : (k == g) = false) : List.lookup k ((g, v) :: r) = List.lookup k r := by
  simp only [List.lookup, h]
theorem put_here {f : Str} {v x : V} {r : List (Str × V)} : putF f v ((f, x) :: r) = (f, v) :: r := if_pos rfl
theorem put_past {f g : Str} {v x : V} {r : List (Str × V)} (h : ¬ g = f) : putF f v ((g, x) :: r) = (g, x) :: putF f v r := if_neg h
def ff (tl cl : Addr) (known : Nat) (ended : Bool) : List (Str × V) := [("table", .ref tl), ("came", .ref cl), ("known", .int (known : Int)), ("ended", .bl ended)]
section
variable (tl cl : Addr) (n : Nat) (e : Bool)
theorem ff_table : (ff tl cl n e).lookup ("table" : Str) = some (.ref tl) := lk_here
theorem ff_came : (ff tl cl n e).lookup ("came" : Str) = some (.ref cl) := (lk_past (by decide +kernel)).trans lk_here
theorem ff_known : (ff tl cl n e).lookup ("known" : Str) = some (.int (n : Int)) := (lk_past (by decide +kernel)).trans ((lk_past (by decide +kernel)).trans lk_here)
theorem ff_ended : (ff tl cl n e).lookup ("ended" : Str) = some (.bl e) := (lk_past (by decide +kernel)).trans ((lk_past (by decide +kernel)).trans ((lk_past (by decide +kernel)).trans lk_here))
theorem ff_no {m : Str} (h1 : (m == ("table" : Str)) = false) (h2 : (m == ("came" : Str)) = false) (h3 : (m == ("known" : Str)) = false) (h4 : (m == ("ended" : Str)) = false) : (ff tl cl n e).lookup m = none :=
  (lk_past h1).trans ((lk_past h2).trans ((lk_past h3).trans ((lk_past h4).trans rfl)))
theorem ff_put_known (m : Nat) : putF "known" (.int (m : Int)) (ff tl cl n e) = ff tl cl m e := (put_past (by decide +kernel)).trans (congrArg _ ((put_past (by decide +kernel)).trans (congrArg _ put_here)))
theorem ff_put_ended (b : Bool) : putF "ended" (.bl b) (ff tl cl n e) = ff tl cl n b := (put_past (by decide +kernel)).trans (congrArg _ ((put_past (by decide +kernel)).trans (congrArg _ ((put_past (by decide +kernel)).trans (congrArg _ put_here)))))
theorem ff_new : putF "ended" (.bl false) (putF "known" (.int 0) (putF "came" (.ref cl) (putF "table" (.ref tl) []))) = ff tl cl 0 false := by
  have a1 : putF "table" (V.ref tl) [] = ([("table", .ref tl)] : List (Str × V)) := rfl
  have a2 : putF "came" (V.ref cl) [(("table" : Str), .ref tl)] = ([("table", .ref tl), ("came", .ref cl)] : List (Str × V)) := (put_past (by decide +kernel)).trans rfl
  have a3 : putF "known" (V.int 0) [(("table" : Str), .ref tl), ("came", .ref cl)] = ([("table", .ref tl), ("came", .ref cl), ("known", .int 0)] : List (Str × V)) := (put_past (by decide +kernel)).trans (congrArg _ ((put_past (by decide +kernel)).trans rfl))
  have a4 : putF "ended" (V.bl false) [(("table" : Str), .ref tl), ("came", .ref cl), ("known", .int 0)] = ([("table", .ref tl), ("came", .ref cl), ("known", .int 0), ("ended", .bl false)] : List (Str × V)) := (put_past (by decide +kernel)).trans (congrArg _ ((put_past (by decide +kernel)).trans (congrArg _ ((put_past (by decide +kernel)).trans rfl))))
  rw [a1, a2, a3, a4]
  rfl
end
structure FeedSt where
  ns : List Int
  known : Nat
  ended : Bool
def stl (tab : List Kd) (s : FeedSt) : Nat := if s.ended = true then s.ns.length else settled s.ns tab
def stsL (tab : List Kd) (s : FeedSt) : List Nat := if s.ended = true then [s.ns.length] else starts s.ns tab
def sureF (tab : List Kd) (s : FeedSt) : List (Nat × Str) := cut s.ns tab (stl tab s)
abbrev CF (K : PySem.W.Frag) : Addr := He.ga K "Feed"
structure FeedAt (K : PySem.W.Frag) (H : Hp) (f cl tl dx : Addr) (tab : List Kd) (s : FeedSt) : Prop where
  ob : H f = some (.ins (CF K) dx (ff tl cl s.known s.ended))
  came : H cl = some (.lst (s.ns.map V.int))
  tabl : TabL K H tl tab
  ne : tl ≠ cl
theorem FeedAt.mono {K : PySem.W.Frag} {H H' : Hp} {f cl tl dx : Addr} {tab : List Kd} {s : FeedSt} (h : FeedAt K H f cl tl dx tab s) (e : Ex H H') : FeedAt K H' f cl tl dx tab s :=
  ⟨e _ _ h.ob, e _ _ h.came, h.tabl.mono e, h.ne⟩
/-- all but two objects is as it was -/
def Ex2 (l m : Addr) (H H' : Hp) : Prop := ∀ a o, H a = some o → a ≠ l → a ≠ m → H' a = some o
/-- new rows, made somewhere -/
def RetN (K : PySem.W.Frag) (rows : List (List V)) (H : Hp) (v : V) (H' : Hp) : Prop := ∃ p, v = .ref p ∧ H p = none ∧ RowsN K H' p rows
theorem ExB.rowsL {K : PySem.W.Frag} {l a : Addr} {H H' : Hp} {rows : List (List V)} {C dx : Addr} {fs : List (Str × V)} (b : ExB l H H') (h : RowsL K H a rows) (hl : H l = some (.ins C dx fs)) : RowsL K H' a rows := by
  obtain ⟨ts, h1, h2⟩ := h
  refine ⟨ts, ?_, h2.mono fun t r q => ?_⟩
  · rcases h1 with (h | ⟨o, h⟩) | h
    · exact .inl (.inl (b _ _ h fun e => by rw [e, hl] at h; cases h))
    · exact .inl (.inr ⟨o, b _ _ h fun e => by rw [e, hl] at h; cases h⟩)
    · exact .inr h
  · rcases q with (h | ⟨o, h⟩) | h
    · exact .inl (.inl (b _ _ h fun e => by rw [e, hl] at h; cases h))
    · exact .inl (.inr ⟨o, b _ _ h fun e => by rw [e, hl] at h; cases h⟩)
    · exact .inr h
theorem ExB.rowsLst {K : PySem.W.Frag} {l a : Addr} {H H' : Hp} {rows : List (List V)} {ys : List V} (b : ExB l H H') (h : RowsL K H a rows) (hl : H l = some (.lst ys)) (n : a ≠ l) : RowsL K H' a rows := by
  obtain ⟨ts, h1, h2⟩ := h
  exact ⟨ts, b.seq h1 n, h2.mono fun _ _ q => b.tup q hl⟩
section
variable {K : PySem.W.Frag} {σ : L2.St} {H H' : Hp} {ta tb te tx : TE} {x y z v : V} {D : Ends} {tz : TS} {P P' : Hp → V → Hp → Prop}
theorem ev_meth {C a dx : Addr} {m : Str} {fs : List (Str × V)} {sp : Sp} {dvs vs : List V} {E : XK} {t : TA} (h : Ev ta σ H (.ref a)) (ho : H a = some (.ins C dx fs)) (hm : fs.lookup m = none) (ha : EvA t σ H vs) (hs : SpV sp (.ref a :: (vs ++ dvs)) H z) : Ev (tMeth C m sp dvs E ta t) σ H z := fun H1 e Q q =>
  h H1 e _ fun H2 e2 => ⟨a, dx, fs, rfl, (e.trans e2) _ _ ho, hm, ha H2 (e.trans e2) _ fun H3 e3 => hs H3 ((e.trans e2).trans e3) Q (fun H4 e4 => q H4 ((e2.trans e3).trans e4)) E⟩
theorem eg_meth {C a dx : Addr} {m : Str} {fs : List (Str × V)} {sp : Sp} {dvs vs : List V} {E : XK} {t : TA} (h : Ev ta σ H (.ref a)) (ho : H a = some (.ins C dx fs)) (hm : fs.lookup m = none) (ha : EvA t σ H vs) (hs : SpG sp (.ref a :: (vs ++ dvs)) H P) (hP : ∀ H1 H2 v H3, Ex H1 H2 → P H2 v H3 → P H1 v H3) : EvG (tMeth C m sp dvs E ta t) σ H P := fun H1 e Q q =>
  h H1 e _ fun H2 e2 => ⟨a, dx, fs, rfl, (e.trans e2) _ _ ho, hm, ha H2 (e.trans e2) _ fun H3 e3 => hs H3 ((e.trans e2).trans e3) Q (fun v H4 e4 p => q v H4 ((e2.trans e3).trans e4) (hP _ _ _ _ (e2.trans e3) p)) E⟩
theorem newL_back {xs : List V} (H1 H2 : Hp) (v : V) (H3 : Hp) (e : Ex H1 H2) (h : NewL xs H2 v H3) : NewL xs H1 v H3 := by
  obtain ⟨p, e1, h1, h2⟩ := h
  exact ⟨p, e1, fresh_back e h1, h2⟩
/-- a method called as a statement, or as a value: what it does is told by its own promise -/
theorem t_meth {C a dx : Addr} {m : Str} {fs : List (Str × V)} {sp : Sp} {dvs vs : List V} {E : XK} {t : TA} {Q : VK} (h : Ev ta σ H (.ref a)) (ho : H a = some (.ins C dx fs)) (hm : fs.lookup m = none) (ha : EvA t σ H vs) (hs : ∀ H1, Ex H H1 → sp (.ref a :: (vs ++ dvs)) H1 Q E) : tMeth C m sp dvs E ta t σ H Q :=
  h H (Ex.refl _) _ fun H2 e2 => ⟨a, dx, fs, rfl, e2 _ _ ho, hm, ha H2 e2 _ fun H3 e3 => hs H3 (e2.trans e3)⟩
end
theorem sIx_nat {n d m : Nat} : HT.sIx n d (some (m : Int)) = min m n := by
  unfold HT.sIx
  simp
  omega
theorem cutV_drop (xs : List V) (n : Nat) : cutV xs (some (n : Int)) none = xs.drop n := by
  unfold cutV
  rw [sIx_nat]
  show (xs.drop (min n xs.length)).take (xs.length - min n xs.length) = xs.drop n
  rw [List.take_of_length_le (by rw [List.length_drop]; exact Nat.le_refl _)]
  by_cases h : n ≤ xs.length
  · rw [Nat.min_eq_left h]
  · rw [Nat.min_eq_right (by omega), List.drop_length, List.drop_of_length_le (by omega)]
section
variable {K : PySem.W.Frag} {σ : L2.St} {H H' : Hp} {ta tb te tx : TE} {tl th : TO} {x y z v : V} {D : Ends} {tz : TS} {P P' : Hp → V → Hp → Prop}
/-- rows[n:] -/
theorem eg_dropR {a : Addr} {rows : List (List V)} {n : Nat} (h : Ev te σ H (.ref a)) (h1 : EvO tl σ H (some (n : Int))) (h2 : EvO th σ H none) (hs : RowsL K H a rows) : EvG (tSl (rSlL K) te tl th) σ H (NewR K (rows.drop n)) := by
  obtain ⟨ts, hl, hA⟩ := hs
  intro H1 e Q q
  refine el_sl h h1 h2 hl H1 e Q fun p H2 hp e2 h3 => q _ H2 e2 ⟨p, rfl, hp, ts.drop n, ?_, (hA.mono fun _ _ z => ex_t (e.trans e2) z).drop n⟩
  rw [h3, cutV_drop, List.map_drop]
theorem ev_lenR {a : Addr} {rows : List (List V)} (h : Ev te σ H (.ref a)) (hs : RowsL K H a rows) : Ev (tCB (rLenS K) (tCons te tNil)) σ H (.int (rows.length : Int)) := by
  obtain ⟨ts, hl, hA⟩ := hs
  have e : ((ts.map V.ref).length : Int) = (rows.length : Int) := by rw [List.length_map, hA.length]
  exact ev_is (ev_len h hl) (congrArg V.int e)
end
theorem sure_le {tab : List Kd} (W : Wide tab) (s : FeedSt) : stl tab s ≤ s.ns.length := by
  unfold stl
  split
  · exact Nat.le_refl _
  · exact settled_le W
/-! ### the promises -/
section
variable (K : PySem.W.Frag)
def sp_Feed_init : Sp := fun vs H Q _ => ∃ (p dx tb : Addr) (tab : List Kd), vs = [.ref p, .ref tb] ∧ H p = some (.ins (CF K) dx []) ∧ TabL K H tb tab ∧ ∀ cl tl H', H cl = none → H tl = none → (∃ xs, H' tl = some (.lst xs)) → FeedAt K H' p cl tl dx tab ⟨[], 0, false⟩ → ExB p H H' → Q .non H'
def sp_Feed_closed : Sp := fun vs H Q _ => ∃ (f cl tl dx : Addr) (tab : List Kd) (s : FeedSt), vs = [.ref f] ∧ FeedAt K H f cl tl dx tab s ∧ RetV (.bl s.ended) H Q
def sp_Feed_still_open : Sp := fun vs H Q _ => ∃ (f cl tl dx : Addr) (tab : List Kd) (s : FeedSt), vs = [.ref f] ∧ FeedAt K H f cl tl dx tab s ∧ s.ended = false ∧ RetV .non H Q
def sp_Feed_cells : Sp := fun vs H Q _ => ∃ (f cl tl dx : Addr) (tab : List Kd) (s : FeedSt), vs = [.ref f] ∧ FeedAt K H f cl tl dx tab s ∧ RetL (s.ns.map V.int) H Q
def sp_Feed_cutting : Sp := fun vs H Q _ => ∃ (f cl tl dx : Addr) (tab : List Kd) (s : FeedSt), vs = [.ref f] ∧ FeedAt K H f cl tl dx tab s ∧ s.ns.length ≤ 200 ∧ Wide tab ∧ RetG (NewR K ((told s.ns tab).map pieV)) H Q
def sp_Feed_is_open : Sp := fun vs H Q _ => ∃ (f cl tl dx s h t : Addr) (i : Nat) (tab0 tab : List Kd) (fs : FeedSt) (kd : Kd), vs = [.ref f, .ref s, .ref h, .ref t, .int (i : Int)] ∧ FeedAt K H f cl tl dx tab0 fs ∧ SqL K H s ((sums fs.ns).map V.int) ∧ SqL K H h ((hlist fs.ns tab fs.ns.length).map V.int) ∧
  SqT K H t (kindV kd) ∧ i ≤ fs.ns.length ∧ RetV (.bl (isOpen fs.ns tab i kd)) H Q
def sp_Feed_open_starts : Sp := fun vs H Q _ => ∃ (f cl tl dx : Addr) (tab : List Kd) (s : FeedSt), vs = [.ref f] ∧ FeedAt K H f cl tl dx tab s ∧ s.ns.length ≤ 200 ∧ tab.length ≤ 100 ∧ Wide tab ∧ RetL (nVs (stsL tab s)) H Q
def sp_Feed_settled : Sp := fun vs H Q _ => ∃ (f cl tl dx : Addr) (tab : List Kd) (s : FeedSt), vs = [.ref f] ∧ FeedAt K H f cl tl dx tab s ∧ s.ns.length ≤ 200 ∧ tab.length ≤ 100 ∧ Wide tab ∧ RetV (.int ((stl tab s : Nat) : Int)) H Q
def sp_Feed_sure : Sp := fun vs H Q _ => ∃ (f cl tl dx : Addr) (tab : List Kd) (s : FeedSt), vs = [.ref f] ∧ FeedAt K H f cl tl dx tab s ∧ s.ns.length ≤ 200 ∧ tab.length ≤ 100 ∧ Wide tab ∧ RetG (NewR K ((sureF tab s).map pieV)) H Q
def sp_Feed_fresh : Sp := fun vs H Q _ => ∃ (f cl tl dx : Addr) (tab : List Kd) (s : FeedSt), vs = [.ref f] ∧ FeedAt K H f cl tl dx tab s ∧ s.ns.length ≤ 200 ∧ tab.length ≤ 100 ∧ Wide tab ∧
  ∀ v H', ExB f H H' → FeedAt K H' f cl tl dx tab ⟨s.ns, (sureF tab s).length, s.ended⟩ → RetN K (((sureF tab s).drop s.known).map pieV) H v H' → Q v H'
def sp_Feed_take : Sp := fun vs H Q _ => ∃ (f cl tl dx : Addr) (c : Int) (tab : List Kd) (s : FeedSt), vs = [.ref f, .int c] ∧ FeedAt K H f cl tl dx tab s ∧ s.ended = false ∧ s.ns.length < 200 ∧ tab.length ≤ 100 ∧ Wide tab ∧
  ∀ v H', Ex2 f cl H H' → FeedAt K H' f cl tl dx tab ⟨s.ns ++ [c], (sure (s.ns ++ [c]) tab).length, false⟩ → RetN K (((sure (s.ns ++ [c]) tab).drop s.known).map pieV) H v H' → Q v H'
def sp_Feed_close : Sp := fun vs H Q _ => ∃ (f cl tl dx : Addr) (tab : List Kd) (s : FeedSt), vs = [.ref f] ∧ FeedAt K H f cl tl dx tab s ∧ s.ended = false ∧ s.ns.length ≤ 200 ∧ tab.length ≤ 100 ∧ Wide tab ∧
  ∀ v H', ExB f H H' → FeedAt K H' f cl tl dx tab ⟨s.ns, (told s.ns tab).length, true⟩ → RetN K (((told s.ns tab).drop s.known).map pieV) H v H' → Q v H'
end
end Sv
/-! Lines: words, numbers, tables, cuttings as texts. -/
namespace Sv
open PySem PySem.Spec PyProof.Rows L2 Evl TL
/-! ### numbers as words -/
def numS (n : Int) : Str := Str.ofString (toString n)
theorem tl_numS (n : Nat) : tl (numS (n : Int)) = numL n := tl_num n
theorem numS_nat {z : Int} (h : 0 ≤ z) : tl (numS z) = numL z.toNat := by
  obtain ⟨n, rfl⟩ : ∃ n : Nat, z = (n : Int) := ⟨z.toNat, by omega⟩
  rw [tl_numS]
  rfl
theorem numL_mem {n c : Nat} (h : c ∈ numL n) : 48 ≤ c ∧ c ≤ 57 := by
  have q1 : ¬ c < 48 := fun q => numL_free (n := n) (s := c) (Or.inl q) h
  have q2 : ¬ 57 < c := fun q => numL_free (n := n) (s := c) (Or.inr q) h
  omega
theorem numL_head {n : Nat} (hn : 0 < n) : ∃ c r, numL n = c :: r ∧ c ≠ 48 := by
  induction n using Nat.strongRecOn with
  | ind n ih =>
    by_cases h : n < 10
    · rw [numL_lt h]
      exact ⟨48 + n, [], rfl, by omega⟩
    · rw [numL_step (by omega)]
      obtain ⟨c, r, e, hc⟩ := ih (n / 10) (by omega) (by omega)
      rw [e]
      exact ⟨c, r ++ [48 + n % 10], rfl, hc⟩
/-! ### joined words -/
theorem joinL_app (S : List Nat) : ∀ (as : List (List Nat)) (b : List Nat) (bs : List (List Nat)), as ≠ [] → joinL S (as ++ b :: bs) = joinL S as ++ (S ++ joinL S (b :: bs))
  | [], _, _, h => absurd rfl h
  | [a], b, bs, _ => rfl
  | a :: a' :: as, b, bs, _ => by
    have ih := joinL_app S (a' :: as) b bs (by simp)
    show a ++ (S ++ joinL S (a' :: as ++ b :: bs)) = (a ++ (S ++ joinL S (a' :: as))) ++ (S ++ joinL S (b :: bs))
    rw [ih, List.append_assoc, List.append_assoc]
theorem joinL_len {S : List Nat} {m : Nat} : ∀ {ws : List (List Nat)}, (∀ w ∈ ws, w.length ≤ m) → (joinL S ws).length ≤ ws.length * (m + S.length)
  | [], _ => by simp [joinL]
  | [w], h => by
    have := h w (by simp)
    simp [joinL]
    omega
  | w :: w' :: ws, h => by
    have h1 := h w (by simp)
    have ih := joinL_len (S := S) (m := m) (ws := w' :: ws) fun x hx => h x (List.mem_cons_of_mem _ hx)
    show (w ++ (S ++ joinL S (w' :: ws))).length ≤ _
    rw [List.length_append, List.length_append, List.length_cons, Nat.succ_mul]
    omega
theorem tl_blank : tl (" " : Str) = [32] := by decide +kernel
theorem tl_slash3 : tl (" / " : Str) = [32, 47, 32] := by decide +kernel
theorem tl_slash : tl ("/" : Str) = [47] := by decide +kernel
theorem tl_dash : tl ("-" : Str) = [45] := by decide +kernel
theorem tl_colon : tl (":" : Str) = [58] := by decide +kernel
theorem tl_empty : tl (Str.empty) = [] := by decide +kernel
theorem join_tl (y : Str) (ws : List Str) : tl (Txt.join y ws) = joinL (tl y) (ws.map tl) := by rw [join_eq, tl_join]
/-- a line of words, split -/
theorem split_ws {x : Str} {ws : List Str} (h : tl x = joinL [32] (ws.map tl)) (hne : ws ≠ []) (hb : ∀ w ∈ ws, 32 ∉ tl w) : Txt.split x " " = ws := by
  refine map_tl_inj ?_
  rw [split_spl x " " (by rw [tl_blank]; simp) (kind_ok (by decide +kernel)), h, tl_blank]
  refine spl_join (fun e => hne (List.map_eq_nil_iff.mp e)) fun p hp => ?_
  obtain ⟨z, hz, rfl⟩ := List.mem_map.mp hp
  exact hb z hz
theorem pre3 {p r : List Nat} (hp : 47 ∉ p) {i : Nat} (hi : i < p.length) : pre [32, 47, 32] ((p ++ ([32, 47, 32] ++ r)).drop i) = false := by
  unfold pre
  by_cases q : ((p ++ ([32, 47, 32] ++ r)).drop i).take 3 = [32, 47, 32]
  · have h1 := congrArg (fun l => l[1]?) q
    simp only [List.getElem?_take, List.getElem?_drop] at h1
    have h2 : (p ++ ([32, 47, 32] ++ r))[i + 1]? = some 47 := by simpa using h1
    by_cases h3 : i + 1 < p.length
    · rw [List.getElem?_append_left h3] at h2
      exact absurd (List.mem_of_getElem? h2) hp
    · have h4 : i + 1 = p.length := by omega
      rw [List.getElem?_append_right (by omega), h4] at h2
      simp at h2
  · exact beq_eq_false_iff_ne.mpr q
theorem pre3_last {p : List Nat} (hp : 47 ∉ p) {i : Nat} (hi : i < p.length) : pre [32, 47, 32] (p.drop i) = false := by
  unfold pre
  by_cases q : (p.drop i).take 3 = [32, 47, 32]
  · have h1 := congrArg (fun l => l[1]?) q
    simp only [List.getElem?_take, List.getElem?_drop] at h1
    have h2 : p[i + 1]? = some 47 := by simpa using h1
    exact absurd (List.mem_of_getElem? h2) hp
  · exact beq_eq_false_iff_ne.mpr q
theorem spl_slash : ∀ {parts : List (List Nat)}, parts ≠ [] → (∀ p ∈ parts, 47 ∉ p) → spl [32, 47, 32] 0 [] (joinL [32, 47, 32] parts) = parts
  | [], h, _ => absurd rfl h
  | [p], _, hp => by
    show spl [32, 47, 32] 0 [] p = [p]
    rw [spl_last fun i hi => pre3_last (hp p (by simp)) hi, List.nil_append]
  | p :: q :: r, _, hp => by
    show spl [32, 47, 32] 0 [] (p ++ ([32, 47, 32] ++ joinL [32, 47, 32] (q :: r))) = p :: q :: r
    rw [spl_part (by simp) fun i hi => pre3 (hp p (by simp)) hi, List.nil_append, spl_slash (by simp) fun z hz => hp z (List.mem_cons_of_mem _ hz)]
theorem split_slash {x : Str} {ps : List Str} (h : tl x = joinL [32, 47, 32] (ps.map tl)) (hne : ps ≠ []) (hb : ∀ w ∈ ps, 47 ∉ tl w) : Txt.split x " / " = ps := by
  refine map_tl_inj ?_
  rw [split_spl x " / " (by rw [tl_slash3]; simp) (kind_ok (by decide +kernel)), h, tl_slash3]
  refine spl_slash (fun e => hne (List.map_eq_nil_iff.mp e)) fun p hp => ?_
  obtain ⟨z, hz, rfl⟩ := List.mem_map.mp hp
  exact hb z hz
theorem sum_le {α : Type} {f : α → Nat} {m : Nat} : ∀ {l : List α}, (∀ x ∈ l, f x ≤ m) → (l.map f).sum ≤ l.length * m
  | [], _ => by simp
  | x :: l, h => by
    have h1 := h x (by simp)
    have ih := sum_le (f := f) (m := m) (l := l) fun y hy => h y (List.mem_cons_of_mem _ hy)
    rw [List.map_cons, List.sum_cons, List.length_cons, Nat.succ_mul]
    omega
/-! ### what is good -/
def nameOk (s : Str) : Prop := 1 ≤ (tl s).length ∧ (tl s).length ≤ 8 ∧ ∀ c ∈ tl s, 97 ≤ c ∧ c ≤ 122
theorem nameOk.free {s : Str} (h : nameOk s) {c : Nat} (hc : c < 97) : c ∉ tl s := fun hm => by
  have := (h.2.2 c hm).1
  omega
theorem nameOk.ne {s : Str} (h : nameOk s) : s ≠ Str.empty := fun e => by
  have h1 := h.1
  rw [e, tl_empty] at h1
  simp at h1
structure kindOk (k : Kd) : Prop where
  name : nameOk k.name
  w1 : 1 ≤ k.width
  w2 : k.width ≤ 200
  v1 : 1 ≤ k.worth
  v2 : k.worth ≤ 1000000000000000000
  a1 : 0 ≤ k.allowed
  a2 : k.allowed < 1000000000000000000
structure tabOk (tab : List Kd) : Prop where
  len : tab.length ≤ 8
  ks : ∀ k ∈ tab, kindOk k
  nd : (tab.map fun k => k.name).Nodup
theorem tabOk.wide {tab : List Kd} (h : tabOk tab) : Wide tab := fun k hk => (h.ks k hk).w1
def cellsOk (ns : List Int) : Prop := ns.length ≤ 200 ∧ ∀ c ∈ ns, 0 ≤ c ∧ c ≤ 1000000000000000000
def pieOk (ps : List (Nat × Str)) : Prop := ps.length ≤ 1000 ∧ ∀ p ∈ ps, p.1 ≤ 1000 ∧ nameOk p.2
/-! ### the lines -/
def numWs (ns : List Int) : List Str := if ns = [] then ["-"] else ns.map numS
def numsLine (ns : List Int) : Str := if ns = [] then "-" else Txt.join " " (ns.map numS)
theorem numsLine_eq (ns : List Int) : numsLine ns = Txt.join " " (numWs ns) := by
  unfold numsLine numWs
  split
  · rw [join_eq]
    rfl
  · rfl
def kindWs (k : Kd) : List Str := [k.name, numS k.width, numS k.worth, numS k.allowed]
def kindLine (k : Kd) : Str := Txt.join " " (kindWs k)
def tabLine (tab : List Kd) : Str := if tab = [] then "-" else Txt.join " / " (tab.map kindLine)
def tabWs : List Kd → List Str
  | [] => ["-"]
  | [k] => kindWs k
  | k :: k' :: r => kindWs k ++ ("/" : Str) :: tabWs (k' :: r)
def pieW (p : Nat × Str) : Str := numS (p.1 : Int) ++ ":" ++ p.2
def cutLine (ps : List (Nat × Str)) : Str := if ps = [] then "-" else Txt.join " " (ps.map pieW)
theorem num_free {z : Int} (hz : 0 ≤ z) {c : Nat} (h : c < 48 ∨ 57 < c) : c ∉ tl (numS z) := by
  rw [numS_nat hz]
  exact numL_free h
theorem num_len {z : Int} (hz : 0 ≤ z) (h : z ≤ 1000000000000000000) : (tl (numS z)).length ≤ 19 := by
  rw [numS_nat hz]
  exact numL_len (by decide) (by
    have : z.toNat ≤ 1000000000000000000 := by omega
    exact Nat.lt_of_le_of_lt this (by decide))
theorem kindWs_ok {k : Kd} (h : kindOk k) : ∀ w ∈ kindWs k, 32 ∉ tl w ∧ 47 ∉ tl w ∧ (tl w).length ≤ 19 := by
  intro w hw
  unfold kindWs at hw
  simp only [List.mem_cons, List.not_mem_nil, or_false] at hw
  have h2 := h.w2
  rcases hw with rfl | rfl | rfl | rfl
  · have := h.name.2.1
    exact ⟨h.name.free (by decide), h.name.free (by decide), by omega⟩
  · exact ⟨num_free (by omega) (by decide), num_free (by omega) (by decide), num_len (by omega) (by omega)⟩
  · have := h.v1
    exact ⟨num_free (by omega) (by decide), num_free (by omega) (by decide), num_len (by omega) h.v2⟩
  · have := h.a1
    have := h.a2
    exact ⟨num_free (by omega) (by decide), num_free (by omega) (by decide), num_len (by omega) (by omega)⟩
theorem mem_joinL {S : List Nat} {c : Nat} : ∀ {ws : List (List Nat)}, c ∈ joinL S ws → c ∈ S ∨ ∃ w ∈ ws, c ∈ w
  | [], h => by simp [joinL] at h
  | [w], h => .inr ⟨w, by simp, h⟩
  | w :: w' :: ws, h => by
    have h' : c ∈ w ++ (S ++ joinL S (w' :: ws)) := h
    rw [List.mem_append, List.mem_append] at h'
    rcases h' with h | h | h
    · exact .inr ⟨w, by simp, h⟩
    · exact .inl h
    · rcases mem_joinL h with h | ⟨z, hz, hc⟩
      · exact .inl h
      · exact .inr ⟨z, List.mem_cons_of_mem _ hz, hc⟩
theorem kindLine_tl (k : Kd) : tl (kindLine k) = joinL [32] ((kindWs k).map tl) := by
  unfold kindLine
  rw [join_tl, tl_blank]
theorem kindLine_free {k : Kd} (h : kindOk k) : 47 ∉ tl (kindLine k) := by
  rw [kindLine_tl]
  intro hm
  rcases mem_joinL hm with q | ⟨w, hw, hc⟩
  · simp at q
  · obtain ⟨z, hz, rfl⟩ := List.mem_map.mp hw
    exact (kindWs_ok h z hz).2.1 hc
theorem kindLine_len {k : Kd} (h : kindOk k) : (tl (kindLine k)).length ≤ 80 := by
  rw [kindLine_tl]
  have h1 := joinL_len (S := [32]) (m := 19) (ws := (kindWs k).map tl) fun w hw => by
    obtain ⟨z, hz, rfl⟩ := List.mem_map.mp hw
    exact (kindWs_ok h z hz).2.2
  have h2 : ((kindWs k).map tl).length = 4 := rfl
  rw [h2] at h1
  simpa using h1
theorem tabWs_ne (tab : List Kd) : tabWs tab ≠ [] := by
  cases tab with
  | nil => simp [tabWs]
  | cons k r =>
    cases r with
    | nil => simp [tabWs, kindWs]
    | cons k' r => simp [tabWs, kindWs]
theorem tabWs_tl : ∀ tab : List Kd, joinL [32] ((tabWs tab).map tl) = tl (tabLine tab)
  | [] => rfl
  | [k] => by
    show joinL [32] ((kindWs k).map tl) = tl (tabLine [k])
    unfold tabLine
    rw [if_neg (by simp), join_tl]
    show _ = joinL (tl " / ") [tl (kindLine k)]
    rw [← kindLine_tl]
    rfl
  | k :: k' :: r => by
    have ih := tabWs_tl (k' :: r)
    show joinL [32] ((kindWs k ++ ("/" : Str) :: tabWs (k' :: r)).map tl) = _
    rw [List.map_append, List.map_cons, joinL_app _ _ _ _ (by simp [kindWs]), ← kindLine_tl, tl_slash]
    have e1 : joinL [32] ([47] :: (tabWs (k' :: r)).map tl) = [47] ++ ([32] ++ joinL [32] ((tabWs (k' :: r)).map tl)) := by
      cases q : (tabWs (k' :: r)).map tl with
      | nil => exact absurd (List.map_eq_nil_iff.mp q) (tabWs_ne _)
      | cons a b => rfl
    rw [e1, ih]
    unfold tabLine
    rw [if_neg (by simp), if_neg (by simp), join_tl, join_tl, tl_slash3]
    show _ = tl (kindLine k) ++ ([32, 47, 32] ++ joinL [32, 47, 32] (tl (kindLine k') :: (r.map kindLine).map tl))
    rfl
theorem tabWs_ok : ∀ {tab : List Kd}, (∀ k ∈ tab, kindOk k) → ∀ w ∈ tabWs tab, 32 ∉ tl w ∧ (tl w).length ≤ 19
  | [], _, w, hw => by
    have e : w = "-" := by simpa [tabWs] using hw
    rw [e, tl_dash]
    simp
  | [k], h, w, hw => by
    have q := kindWs_ok (h k (by simp)) w hw
    exact ⟨q.1, q.2.2⟩
  | k :: k' :: r, h, w, hw => by
    have hw' : w ∈ kindWs k ++ ("/" : Str) :: tabWs (k' :: r) := hw
    rw [List.mem_append, List.mem_cons] at hw'
    rcases hw' with hw' | rfl | hw'
    · have q := kindWs_ok (h k (by simp)) w hw'
      exact ⟨q.1, q.2.2⟩
    · rw [tl_slash]
      simp
    · exact tabWs_ok (fun x hx => h x (List.mem_cons_of_mem _ hx)) w hw'
theorem tabWs_len : ∀ tab : List Kd, (tabWs tab).length ≤ 5 * tab.length + 1
  | [] => by simp [tabWs]
  | [k] => by simp [tabWs, kindWs]
  | k :: k' :: r => by
    have ih := tabWs_len (k' :: r)
    show (kindWs k ++ ("/" : Str) :: tabWs (k' :: r)).length ≤ _
    rw [List.length_append, List.length_cons]
    have : (kindWs k).length = 4 := rfl
    simp only [List.length_cons] at ih ⊢
    omega
theorem tabLine_split {tab : List Kd} (h : ∀ k ∈ tab, kindOk k) (hne : tab ≠ []) : Txt.split (tabLine tab) " / " = tab.map kindLine := by
  refine split_slash ?_ (fun e => hne (List.map_eq_nil_iff.mp e)) fun w hw => ?_
  · unfold tabLine
    rw [if_neg hne, join_tl, tl_slash3]
  · obtain ⟨k, hk, rfl⟩ := List.mem_map.mp hw
    exact kindLine_free (h k hk)
theorem kindLine_split {k : Kd} (h : kindOk k) : Txt.split (kindLine k) " " = kindWs k :=
  split_ws (kindLine_tl k) (by simp [kindWs]) fun w hw => (kindWs_ok h w hw).1
theorem tabLine_dash {tab : List Kd} (h : ∀ k ∈ tab, kindOk k) (hne : tab ≠ []) : tabLine tab ≠ "-" := fun e => by
  cases tab with
  | nil => exact hne rfl
  | cons k r =>
    have h1 := tabWs_tl (k :: r)
    rw [e, tl_dash] at h1
    have hn := (h k (by simp)).name
    have h2 : ∃ ws, tabWs (k :: r) = k.name :: numS k.width :: ws := by
      cases r with
      | nil => exact ⟨_, rfl⟩
      | cons k' r => exact ⟨_, rfl⟩
    obtain ⟨ws, h2⟩ := h2
    rw [h2] at h1
    have h3 : joinL [32] (List.map tl (k.name :: numS k.width :: ws)) = tl k.name ++ ([32] ++ joinL [32] (List.map tl (numS k.width :: ws))) := rfl
    rw [h3] at h1
    have h4 := congrArg List.length h1
    have := hn.1
    have h5 : ([32] : List Nat).length = 1 := rfl
    have h6 : ([45] : List Nat).length = 1 := rfl
    rw [List.length_append, List.length_append, h5, h6] at h4
    omega
theorem numWs_ok {ns : List Int} (h : cellsOk ns) : ∀ w ∈ numWs ns, 32 ∉ tl w ∧ (tl w).length ≤ 19 := by
  intro w hw
  unfold numWs at hw
  split at hw
  · rw [List.mem_singleton.mp hw, tl_dash]
    simp
  · obtain ⟨z, hz, rfl⟩ := List.mem_map.mp hw
    obtain ⟨h1, h2⟩ := h.2 z hz
    exact ⟨num_free h1 (by decide), num_len h1 h2⟩
theorem numWs_len {ns : List Int} (h : cellsOk ns) : (numWs ns).length ≤ 201 := by
  unfold numWs
  have := h.1
  split
  · simp
  · rw [List.length_map]
    omega
theorem numsLine_split {ns : List Int} (h : cellsOk ns) : Txt.split (numsLine ns) " " = numWs ns := by
  refine split_ws (by rw [numsLine_eq, join_tl, tl_blank]) ?_ fun w hw => (numWs_ok h w hw).1
  unfold numWs
  split
  · simp
  · rename_i hne
    exact fun e => hne (List.map_eq_nil_iff.mp e)
theorem numsLine_dash {ns : List Int} (h : cellsOk ns) (hne : ns ≠ []) : numsLine ns ≠ "-" := fun e => by
  have h1 := numsLine_split h
  rw [e, split_ws (x := "-") (ws := ["-"]) rfl (by simp) (by intro w hw; rw [List.mem_singleton.mp hw, tl_dash]; simp)] at h1
  unfold numWs at h1
  rw [if_neg hne] at h1
  cases ns with
  | nil => exact hne rfl
  | cons z r =>
    rw [List.map_cons] at h1
    have h2 : ("-" : Str) = numS z := (List.cons.inj h1).1
    have h3 := num_free (h.2 z (by simp)).1 (c := 45) (by decide)
    rw [← h2, tl_dash] at h3
    simp at h3
/-! ### requests -/
inductive Req where
  | table (tab : List Kd)
  | word (w n : Str)
  | take (n : Str) (ns : List Int)
def nameWords : List Str := ["begin", "close", "sure", "settled", "told", "drop"]
def Req.ws : Req → List Str
  | .table tab => "table" :: tabWs tab
  | .word w n => [w, n]
  | .take n ns => "take" :: n :: numWs ns
def Req.ok : Req → Prop
  | .table tab => tabOk tab
  | .word w n => w ∈ nameWords ∧ nameOk n
  | .take n ns => nameOk n ∧ cellsOk ns
def lineIs (line : Str) (r : Req) : Prop := tl line = joinL [32] (r.ws.map tl)
theorem nameWords_ok : ∀ w ∈ nameWords, 32 ∉ tl w ∧ (tl w).length ≤ 19 := by decide +kernel
theorem Req.wsOk {r : Req} (h : r.ok) : ∀ w ∈ r.ws, 32 ∉ tl w ∧ (tl w).length ≤ 19 := by
  intro w hw
  cases r with
  | table tab =>
    rcases List.mem_cons.mp hw with rfl | hw
    · decide +kernel
    · exact tabWs_ok (tabOk.ks h) w hw
  | word w' n =>
    obtain ⟨h1, h2⟩ := h
    rcases List.mem_cons.mp hw with rfl | hw
    · exact nameWords_ok _ h1
    · rw [List.mem_singleton.mp hw]
      have := h2.2.1
      exact ⟨h2.free (by decide), by omega⟩
  | take n ns =>
    obtain ⟨h1, h2⟩ := h
    rcases List.mem_cons.mp hw with rfl | hw
    · decide +kernel
    · rcases List.mem_cons.mp hw with rfl | hw
      · have := h1.2.1
        exact ⟨h1.free (by decide), by omega⟩
      · exact numWs_ok h2 w hw
theorem Req.wsLen {r : Req} (h : r.ok) : r.ws.length ≤ 300 := by
  cases r with
  | table tab =>
    have h1 := tabWs_len tab
    have h2 := tabOk.len h
    show (tabWs tab).length + 1 ≤ 300
    omega
  | word w n => exact (by decide : 2 ≤ 300)
  | take n ns =>
    have h1 := numWs_len h.2
    show (numWs ns).length + 1 + 1 ≤ 300
    omega
theorem Req.split {r : Req} {line : Str} (h : r.ok) (hl : lineIs line r) : Txt.split line " " = r.ws :=
  split_ws hl (by cases r <;> simp [Req.ws]) fun w hw => (Req.wsOk h w hw).1
theorem Req.lineLen {r : Req} {line : Str} (h : r.ok) (hl : lineIs line r) : line.length ≤ 6000 := by
  rw [len_tl, hl]
  have h1 := joinL_len (S := [32]) (m := 19) (ws := r.ws.map tl) fun w hw => by
    obtain ⟨z, hz, rfl⟩ := List.mem_map.mp hw
    exact (Req.wsOk h z hz).2
  have h2 := Req.wsLen h
  rw [List.length_map] at h1
  have h3 : r.ws.length * (19 + 1) ≤ 300 * (19 + 1) := Nat.mul_le_mul_right _ h2
  exact Nat.le_trans h1 h3
end Sv
/-! Texts: what their readings evaluate to; the promises of the defs that read and write lines. -/
namespace Sv
open PySem PySem.Spec PyProof.Rows L2 Evl TL
theorem log_ok {z : Int} (h1 : -1000000000000000000000 ≤ z) (h2 : z ≤ 1000000000000000000000) : z.natAbs.log2 < 1920 := by
  have h : z.natAbs ≤ 1000000000000000000000 := by omega
  by_cases h0 : z.natAbs = 0
  · rw [h0]
    decide
  · rw [Nat.log2_lt h0]
    exact Nat.lt_of_lt_of_le (Nat.lt_of_le_of_lt h (show 1000000000000000000000 < 2 ^ 100 by decide)) (Nat.pow_le_pow_right (by decide) (by decide))
section
variable {K : PySem.W.Frag} {σ : L2.St} {H H' : Hp} {ta tb te tx to : TE} {t u : TT} {x y z v : V} {r : R2} {D : Ends} {tu tw tz : TS} {P P' : Hp → V → Hp → Prop}
theorem rv_is {z' : V} (h : RV r x y H z) (e : z = z') : RV r x y H z' := by
  rw [← e]
  exact h
theorem rv_leT {i j : Int} (h : i ≤ j) : RV (rI0 fun i j => .bl (decide (i ≤ j))) (.int i) (.int j) H (.bl true) := rv_is rv_I0 (by show V.bl (decide (i ≤ j)) = _; rw [decide_eq_true h])
theorem rv_ltT {i j : Int} (h : i < j) : RV (rI0 fun i j => .bl (decide (i < j))) (.int i) (.int j) H (.bl true) := rv_is rv_I0 (by show V.bl (decide (i < j)) = _; rw [decide_eq_true h])
theorem el_split {a b : Str} (h : Ev to σ H (.str a)) (he : Ev te σ H (.str b)) (hb : (b.length == 0) = false) (ha : a.length + 2 ≤ 100000) : EvL (tM1 rSplit to te) σ H ((Txt.split a b).map V.str) := fun H1 e Q q =>
  h H1 e _ fun H2 e2 => ⟨⟨a, rfl⟩, he H2 (e.trans e2) _ fun H3 e3 => ⟨a, b, rfl, rfl, hb, sz_of ha, fun p hp => q p _ (fresh_back (e2.trans e3) hp) ((e2.trans e3).trans (Ex.new hp)) upd_same⟩⟩
theorem ev_join {a : Str} {p : Addr} {ys : List Str} (h : Ev to σ H (.str a)) (he : Ev te σ H (.ref p)) (hp : SqL K H p (ys.map V.str)) (hz : (ys.map (·.length)).sum + ys.length * a.length ≤ 16777216) : Ev (tM1 (rJoin K) to te) σ H (.str (Txt.join a ys)) := fun H1 e Q q =>
  h H1 e _ fun H2 e2 => ⟨⟨a, rfl⟩, he H2 (e.trans e2) _ fun H3 e3 => ⟨a, p, ys, rfl, rfl, .inl (ex_l ((e.trans e2).trans e3) hp), hz, q H3 (e2.trans e3)⟩⟩
theorem ev_joinN {a : Str} {ys : List Str} (h : Ev to σ H (.str a)) (he : EvL te σ H (ys.map V.str)) (hz : (ys.map (·.length)).sum + ys.length * a.length ≤ 16777216) : Ev (tM1 (rJoin K) to te) σ H (.str (Txt.join a ys)) := fun H1 e Q q =>
  h H1 e _ fun H2 e2 => ⟨⟨a, rfl⟩, he H2 (e.trans e2) _ fun p H3 _ e3 hp => ⟨a, p, ys, rfl, rfl, .inl (sq_of hp), hz, q H3 (e2.trans e3)⟩⟩
theorem rv_inS {c : Nat} {w : Str} : RV (fun x y H Q => ∃ (c : Nat) (z : Str), x = .str ⟨#[c]⟩ ∧ y = .str z ∧ Q (.bl (decide (c ∈ z.cps.toList))) H) (.str ⟨#[c]⟩) (.str w) H (.bl (decide (c ∈ tl w))) := fun H1 _ _ q => ⟨c, w, rfl, rfl, q H1 (Ex.refl H1)⟩
theorem rv_niS {c : Nat} {w : Str} : RV (fun x y H Q => ∃ (c : Nat) (z : Str), x = .str ⟨#[c]⟩ ∧ y = .str z ∧ Q (.bl (!decide (c ∈ z.cps.toList))) H) (.str ⟨#[c]⟩) (.str w) H (.bl (!decide (c ∈ tl w))) := fun H1 _ _ q => ⟨c, w, rfl, rfl, q H1 (Ex.refl H1)⟩
theorem ev_lenS {w : Str} (h : Ev te σ H (.str w)) (hz : w.length ≤ 100000) : Ev (tCB (fun xs H Q => ∃ z, xs = [.str z] ∧ z.length ≤ sizeLine ∧ Q (.int z.length) H) (tCons te tNil)) σ H (.int (w.length : Int)) := fun H1 e Q q =>
  h H1 e _ fun H2 e2 => ⟨w, rfl, sz_of hz, q H2 e2⟩
theorem ev_str {i : Int} (h : Ev te σ H (.int i)) (hi : i.natAbs.log2 < 1920) : Ev (tCB (fun xs H Q => ∃ i, xs = [.int i] ∧ i.natAbs.log2 < 1920 ∧ Q (.str (toString i)) H) (tCons te tNil)) σ H (.str (numS i)) := fun H1 e Q q =>
  h H1 e _ fun H2 e2 => ⟨i, rfl, hi, q H2 e2⟩
theorem ev_int {a : Str} {n : Int} (h : Ev te σ H (.str a)) (hn : PySem.intText? a = some n) (hz : a.length ≤ 640) : Ev (tCB (fun xs H Q => ∃ a n, xs = [.str a] ∧ PySem.intText? a = some n ∧ a.length ≤ 640 ∧ Q (.int n) H) (tCons te tNil)) σ H (.int n) := fun H1 e Q q =>
  h H1 e _ fun H2 e2 => ⟨a, n, rfl, hn, hz, q H2 e2⟩
theorem ev_slS {tl th : TO} {a : Str} {lo hi : Option Int} (h : Ev te σ H (.str a)) (h1 : EvO tl σ H lo) (h2 : EvO th σ H hi) (hz : a.length ≤ 100000) : Ev (tSl rSlS te tl th) σ H (.str (cutS a lo hi)) := fun H1 e Q q =>
  h H1 e _ fun H2 e2 => h1 H2 (e.trans e2) _ fun H3 e3 => h2 H3 ((e.trans e2).trans e3) _ fun H4 e4 => ⟨a, rfl, sz_of hz, q H4 ((e2.trans e3).trans e4)⟩
theorem rv_adds {a b : Str} (hz : a.length + b.length ≤ 100000) : RV (fun x y H Q => ∃ i j, x = .str i ∧ y = .str j ∧ i.length + j.length ≤ sizeLine ∧ Q (.str (i ++ j)) H) (.str a) (.str b) H (.str (a ++ b)) := fun H1 _ _ q => ⟨a, b, rfl, rfl, sz_of hz, q H1 (Ex.refl H1)⟩
/-- {..} of a text, of a number -/
theorem ev_fmtS {w : Str} (h : Ev te σ H (.str w)) (hz : w.length ≤ 100000) : Ev (tFmt te) σ H (.str w) := fun H1 e Q q => h H1 e _ fun H2 e2 => .inl ⟨w, rfl, sz_of hz, q H2 e2⟩
theorem ev_fmtI {i : Int} (h : Ev te σ H (.int i)) (hi : i.natAbs.log2 < 1920) : Ev (tFmt te) σ H (.str (numS i)) := fun H1 e Q q => h H1 e _ fun H2 e2 => .inr ⟨i, rfl, hi, q H2 e2⟩
/-- f'{a}:{b}' -/
theorem ev_f3 {a b c : Str} (h1 : Ev ta σ H (.str a)) (h2 : Ev tb σ H (.str b)) (h3 : Ev te σ H (.str c)) (hz : a.length + b.length + c.length ≤ 100000) : Ev (fun σ H Q => tJs [ta, tb, te] Str.empty σ H fun out H1 => Q (.str out) H1) σ H (.str (a ++ b ++ c)) := fun H1 e Q q => by
  have hl : ∀ p s : Str, (p ++ s).length = p.length + s.length := fun p s => by rw [len_tl, len_tl, len_tl, tl_append, List.length_append]
  have h0 : Str.empty ++ a = a := ext_tl (by rw [tl_append, tl_empty, List.nil_append])
  refine h1 H1 e _ fun H2 e2 => ⟨a, rfl, by rw [h0]; exact sz_of (by omega), ?_⟩
  rw [h0]
  refine h2 H2 (e.trans e2) _ fun H3 e3 => ⟨b, rfl, by rw [hl]; exact sz_of (by omega), ?_⟩
  exact h3 H3 ((e.trans e2).trans e3) _ fun H4 e4 => ⟨c, rfl, by rw [hl, hl]; exact sz_of (by omega), q H4 ((e2.trans e3).trans e4)⟩
/-! ### loops -/
/-- over a text's signs -/
theorem q_forS {a : Str} {j : Nat} (h : Ev te σ H (.str a)) (Pv : Nat → L2.St → Hp → Prop) (h0 : ∀ H1, Ex H H1 → Pv 0 σ H1)
    (hs : ∀ i c σ' H', (tl a)[i]? = some c → Pv i σ' H' → tu { D with nx := Pv (i + 1), ct := Pv (i + 1), bk := tz D } (σ'.set j (some (.str ⟨#[c]⟩))) H') (hd : ∀ σ' H', Pv (tl a).length σ' H' → tz D σ' H') : tSeq (tFor (iStr te) (gName j) tu) tz D σ H :=
  h H (Ex.refl H) _ fun H1 e => ⟨a, rfl, for_it (D := { D with nx := tz D }) walk_str Pv (h0 H1 e) (fun _ _ _ _ _ => trivial) (fun i x σ' H2 H3 hi p y => by
    obtain ⟨e3, c, hc, e4⟩ := y
    subst e3 e4
    exact hs i c σ' _ (by rw [← hc]; simp [tl]) p) (fun σ' H' p => hd σ' H' (by simpa using p))⟩
/-- for i, x in enumerate(xs) -/
theorem q_forE {a : Addr} {xs : List V} {ta : TA} {i1 i2 : Nat} (h : EvA ta σ H [.ref a]) (hx : SqL K H a xs) (Pv : Nat → L2.St → Hp → Prop) (h0 : ∀ H1, Ex H H1 → Pv 0 σ H1) (hl : ∀ i σ' H', i ≤ xs.length → Pv i σ' H' → SqL K H' a xs)
    (hs : ∀ i x σ' H' H2, xs[i]? = some x → Pv i σ' H' → Ex H' H2 → tu { D with nx := Pv (i + 1), ct := Pv (i + 1), bk := tz D } ((σ'.set i1 (some (.int (i : Int)))).set i2 (some x)) H2) (hd : ∀ σ' H', Pv xs.length σ' H' → tz D σ' H') :
    tSeq (tFor (iEnum K ta) (gTup K 2 (gCons (gName i1) (gCons (gName i2) gNil))) tu) tz D σ H :=
  h H (Ex.refl H) _ fun H1 e => ⟨a, xs, rfl, ex_l e hx, for_it (D := { D with nx := tz D }) (walk_enum (xs := xs)) Pv (h0 H1 e) hl (fun i x σ' H2 H3 hi p y => by
    obtain ⟨T, x1, x2, e1, hT, e3, e4, e5⟩ := y
    subst e1 e3
    have e4' : V.int (i : Int) = x1 := Option.some.inj e4
    subst e4'
    exact ⟨T, _, rfl, st_of upd_same, rfl, _, _, rfl, _, _, rfl, rfl, hs i x2 σ' H2 _ e5 p (Ex.new hT)⟩) hd⟩
/-- targets of four names -/
theorem q_asgT4 {i j k l : Nat} {a : Addr} {w1 w2 w3 w4 : V} (h : Ev te σ H (.ref a)) (ht : SqT K H a [w1, w2, w3, w4]) (kk : ∀ H1, Ex H H1 → tz D ((((σ.set i (some w1)).set j (some w2)).set k (some w3)).set l (some w4)) H1) : tSeq (tAsg te (gTup K 4 (gCons (gName i) (gCons (gName j) (gCons (gName k) (gCons (gName l) gNil)))))) tz D σ H :=
  h H (Ex.refl H) _ fun H1 e => ⟨a, _, rfl, ex_t e ht, rfl, w1, _, rfl, w2, _, rfl, w3, _, rfl, w4, _, rfl, rfl, kk H1 e⟩
/-! ### comprehensions -/
/-- [f(c) for c in text] -/
theorem el_lcS {a : Str} {j : Nat} {vs : List Nat} (f : Nat → V) (h : Ev te σ H (.str a)) (hz : (tl a).length ≤ 40000) (hw : ∀ x, wipe ((wipe σ vs).set j (some x)) vs = wipe σ vs)
    (he : ∀ (c : Nat) H1, Ex H H1 → c ∈ tl a → Ev tx ((wipe σ vs).set j (some (.str ⟨#[c]⟩))) H1 (f c)) : EvL (tLc (iStr te) (gName j) tYes tx vs) σ H ((tl a).map f) := fun H0 e Q q => h H0 e _ fun H1 e1 => ⟨a, rfl, fun Dl hD =>
  lc_it walk_str (fun i H' => Ex H1 H' ∧ H' Dl = some (.lst (((tl a).take i).map f))) ⟨Ex.new hD, upd_same⟩ (fun _ _ _ _ => trivial) (fun i x H2 H3 hi p y => by
    obtain ⟨e3, c, hc, e4⟩ := y
    subst e3 e4
    have hc' : (tl a)[i]? = some c := by rw [← hc]; simp [tl]
    refine ⟨hw _, ?_⟩
    refine he c _ ((e.trans e1).trans p.1) (List.mem_of_getElem? hc') _ (Ex.refl _) _ fun H4 e4 => ⟨_, e4 _ _ p.2, sz_lt (by rw [List.length_map, List.length_take]; omega), Ex.mut (p.1.trans e4) hD, ?_⟩
    rw [upd_same, List.take_succ_eq_append_getElem (lt_of_get hc'), List.map_append, (List.getElem?_eq_some_iff.mp hc').2]
    rfl) (fun H' p => q Dl H' (fresh_back e1 hD) (e1.trans p.1) (by
      have p2 := p.2
      rw [List.take_of_length_le (by simp [tl])] at p2
      exact p2))⟩
/-- [f(x) for x in xs] -/
theorem el_lcM {α : Type} {a : Addr} {xs : List α} {g : α → V} {j : Nat} {vs : List Nat} {tl' : TE} (f : α → V) (h : Ev tl' σ H (.ref a)) (hx : SqL K H a (xs.map g)) (hz : xs.length ≤ 40000) (hw : ∀ x, wipe ((wipe σ vs).set j (some x)) vs = wipe σ vs)
    (he : ∀ (x : α) H1, Ex H H1 → x ∈ xs → Ev te ((wipe σ vs).set j (some (g x))) H1 (f x)) : EvL (tLc (iList K tl') (gName j) tYes te vs) σ H (xs.map f) := fun H0 e Q q => h H0 e _ fun H1 e1 => ⟨a, rfl, ⟨_, ex_l (e.trans e1) hx⟩, fun Dl hD =>
  lc_list (xs := xs.map g) (fun i H' => Ex H1 H' ∧ H' Dl = some (.lst ((xs.take i).map f))) ⟨Ex.new hD, upd_same⟩ (fun i H' _ p => ex_l ((e.trans e1).trans p.1) hx) (fun i y H2 hi p => by
    obtain ⟨x, hx', e4⟩ := map_get hi
    subst e4
    refine ⟨hw _, ?_⟩
    have := lt_of_get hx'
    refine he x H2 ((e.trans e1).trans p.1) (List.mem_of_getElem? hx') H2 (Ex.refl _) _ fun H4 e4 => ⟨_, e4 _ _ p.2, sz_lt (by rw [List.length_map, List.length_take]; omega), Ex.mut (p.1.trans e4) hD, ?_⟩
    rw [upd_same, List.take_succ_eq_append_getElem (lt_of_get hx'), List.map_append, (List.getElem?_eq_some_iff.mp hx').2]
    rfl) (fun H' p => q Dl H' (fresh_back e1 hD) (e1.trans p.1) (by
      have p2 := p.2
      rw [List.length_map, List.take_length] at p2
      exact p2))⟩
/-- [.. for x in xs] over a new list -/
theorem el_lcNM {α : Type} {xs : List α} {g : α → V} {j : Nat} {vs : List Nat} {tl' : TE} (f : α → V) (h : EvL tl' σ H (xs.map g)) (hz : xs.length ≤ 40000) (hw : ∀ x, wipe ((wipe σ vs).set j (some x)) vs = wipe σ vs)
    (he : ∀ (x : α) H1, Ex H H1 → x ∈ xs → Ev te ((wipe σ vs).set j (some (g x))) H1 (f x)) : EvL (tLc (iList K tl') (gName j) tYes te vs) σ H (xs.map f) := fun H0 e Q q => h H0 e _ fun a H1 ha e1 hx => ⟨a, rfl, ⟨_, sq_of hx⟩, fun Dl hD =>
  lc_list (xs := xs.map g) (fun i H' => Ex H1 H' ∧ H' Dl = some (.lst ((xs.take i).map f))) ⟨Ex.new hD, upd_same⟩ (fun i H' _ p => sq_of (p.1 _ _ hx)) (fun i y H2 hi p => by
    obtain ⟨x, hx', e4⟩ := map_get hi
    subst e4
    refine ⟨hw _, ?_⟩
    have := lt_of_get hx'
    refine he x H2 ((e.trans e1).trans p.1) (List.mem_of_getElem? hx') H2 (Ex.refl _) _ fun H4 e4 => ⟨_, e4 _ _ p.2, sz_lt (by rw [List.length_map, List.length_take]; omega), Ex.mut (p.1.trans e4) hD, ?_⟩
    rw [upd_same, List.take_succ_eq_append_getElem (lt_of_get hx'), List.map_append, (List.getElem?_eq_some_iff.mp hx').2]
    rfl) (fun H' p => q Dl H' (fresh_back e1 hD) (e1.trans p.1) (by
      have p2 := p.2
      rw [List.length_map, List.take_length] at p2
      exact p2))⟩
/-- new rows: [(..) for x in xs] over a new list, each element a new tuple -/
theorem eg_lcNR {α : Type} {xs : List α} {g : α → V} {rf : α → List V} {j : Nat} {vs : List Nat} {tl' : TE} (h : EvL tl' σ H (xs.map g)) (hz : xs.length ≤ 40000) (hw : ∀ x, wipe ((wipe σ vs).set j (some x)) vs = wipe σ vs)
    (he : ∀ (x : α) H1, Ex H H1 → x ∈ xs → EvG te ((wipe σ vs).set j (some (g x))) H1 (fun _ v H2 => ∃ p, v = .ref p ∧ H2 p = some (.tup (rf x)))) : EvG (tLc (iList K tl') (gName j) tYes te vs) σ H (NewR K (xs.map rf)) := fun H0 e Q q => h H0 e _ fun a H1 ha e1 hx => ⟨a, rfl, ⟨_, sq_of hx⟩, fun Dl hD =>
  lc_list (xs := xs.map g) (fun i H' => Ex H1 H' ∧ RowsN K H' Dl ((xs.take i).map rf)) ⟨Ex.new hD, [], upd_same, .nil⟩ (fun i H' _ p => sq_of (p.1 _ _ hx)) (fun i y H2 hi p => by
    obtain ⟨x, hx', e4⟩ := map_get hi
    subst e4
    refine ⟨hw _, ?_⟩
    have := lt_of_get hx'
    obtain ⟨p1, ts, p2, p3⟩ := p
    have hlen := p3.length
    rw [List.length_map, List.length_take] at hlen
    refine he x H2 ((e.trans e1).trans p1) (List.mem_of_getElem? hx') H2 (Ex.refl _) _ fun v H4 e4 pv => ?_
    obtain ⟨tp, rfl, htp⟩ := pv
    have hD4 := e4 _ _ p2
    refine ⟨_, hD4, sz_lt (by rw [List.length_map]; omega), Ex.mut (p1.trans e4) hD, ts ++ [tp], by rw [upd_same, List.map_append]; rfl, ?_⟩
    rw [List.take_succ_eq_append_getElem (lt_of_get hx'), List.map_append, (List.getElem?_eq_some_iff.mp hx').2]
    exact (p3.mono fun _ _ z => sqt_lst (ex_t e4 z) hD4 _).snoc (sqt_lst (st_of htp) hD4 _)) (fun H' p => q _ H' (e1.trans p.1) ⟨Dl, rfl, fresh_back e1 hD, by
      have p2 := p.2
      rw [List.length_map, List.take_length] at p2
      exact p2⟩)⟩
/-- [f(a, b) for a, b in rows] -/
theorem el_lcT2 {α : Type} {a : Addr} {xs : List α} {g1 g2 : α → V} {i1 i2 : Nat} {vs : List Nat} {tl' : TE} (f : α → V) (h : Ev tl' σ H (.ref a)) (hx : RowsL K H a (xs.map fun x => [g1 x, g2 x])) (hz : xs.length ≤ 40000) (hw : ∀ x y, wipe (((wipe σ vs).set i1 (some x)).set i2 (some y)) vs = wipe σ vs)
    (he : ∀ (x : α) H1, Ex H H1 → x ∈ xs → Ev te (((wipe σ vs).set i1 (some (g1 x))).set i2 (some (g2 x))) H1 (f x)) : EvL (tLc (iList K tl') (gTup K 2 (gCons (gName i1) (gCons (gName i2) gNil))) tYes te vs) σ H (xs.map f) := fun H0 e Q q => h H0 e _ fun H1 e1 => by
  obtain ⟨ts, hl, hA0⟩ := hx
  have hA := hA0.of_map
  refine ⟨a, rfl, ⟨_, ex_l (e.trans e1) hl⟩, fun Dl hD =>
    lc_list (xs := ts.map V.ref) (fun i H' => Ex H1 H' ∧ H' Dl = some (.lst ((xs.take i).map f))) ⟨Ex.new hD, upd_same⟩ (fun i H' _ p => ex_l ((e.trans e1).trans p.1) hl) (fun i y H2 hi p => ?_) (fun H' p => q Dl H' (fresh_back e1 hD) (e1.trans p.1) ?_)⟩
  · obtain ⟨tk, htk, e4⟩ := map_get hi
    subst e4
    obtain ⟨x, hx', hT⟩ := hA.get' htk
    refine ⟨tk, _, rfl, ex_t ((e.trans e1).trans p.1) hT, rfl, _, _, rfl, _, _, rfl, rfl, hw _ _, ?_⟩
    have := lt_of_get hx'
    refine he x H2 ((e.trans e1).trans p.1) (List.mem_of_getElem? hx') H2 (Ex.refl _) _ fun H4 e4 => ⟨_, e4 _ _ p.2, sz_lt (by rw [List.length_map, List.length_take]; omega), Ex.mut (p.1.trans e4) hD, ?_⟩
    rw [upd_same, List.take_succ_eq_append_getElem (lt_of_get hx'), List.map_append, (List.getElem?_eq_some_iff.mp hx').2]
    rfl
  · have p2 := p.2
    rw [List.length_map, hA.length, List.take_length] at p2
    exact p2
end
/-! ### the promises -/
section
variable (K : PySem.W.Frag)
def sp_good_name (_K : PySem.W.Frag) : Sp := fun vs H Q _ => ∃ (s : Str), vs = [.str s] ∧ nameOk s ∧ RetV (.bl true) H Q
def sp_good_kind : Sp := fun vs H Q _ => ∃ (t : Addr) (kd : Kd), vs = [.ref t] ∧ SqT K H t (kindV kd) ∧ kindOk kd ∧ RetV (.bl true) H Q
def sp_fault : Sp := fun vs H Q _ => ∃ (a : Addr) (tab : List Kd), vs = [.ref a] ∧ TabL K H a tab ∧ tabOk tab ∧ RetV .non H Q
def sp_show_cutting : Sp := fun vs H Q _ => ∃ (a : Addr) (ps : List (Nat × Str)), vs = [.ref a] ∧ PieL K H a ps ∧ pieOk ps ∧ RetV (.str (cutLine ps)) H Q
def sp_law_cutting_line : Sp := sp_show_cutting K
def sp_read_whole (_K : PySem.W.Frag) : Sp := fun vs H Q _ => ∃ (n : Nat), vs = [.str (numS (n : Int))] ∧ n < 100000000000000000000 ∧ RetV (.int (n : Int)) H Q
def sp_read_name (_K : PySem.W.Frag) : Sp := fun vs H Q _ => ∃ (s : Str), vs = [.str s] ∧ nameOk s ∧ RetV (.str s) H Q
def sp_read_numbers (_K : PySem.W.Frag) : Sp := fun vs H Q _ => ∃ (ns : List Int), vs = [.str (numsLine ns)] ∧ cellsOk ns ∧ RetL (ns.map V.int) H Q
def sp_read_kind (_K : PySem.W.Frag) : Sp := fun vs H Q _ => ∃ (kd : Kd), vs = [.str (kindLine kd)] ∧ kindOk kd ∧ RetG (NewU (kindV kd)) H Q
def sp_read_table : Sp := fun vs H Q _ => ∃ (tab : List Kd), vs = [.str (tabLine tab)] ∧ tabOk tab ∧ RetG (NewR K (tab.map kindV)) H Q
def sp_read_roll : Sp := fun vs H Q _ => ∃ (a : Addr) (ns : List Int), vs = [.ref a] ∧ SqL K H a ((numWs ns).map V.str) ∧ cellsOk ns ∧ RetL (ns.map V.int) H Q
def sp_checked_roll : Sp := fun vs H Q _ => ∃ (a : Addr) (ns : List Int), vs = [.ref a] ∧ SqL K H a (ns.map V.int) ∧ cellsOk ns ∧ RetL (ns.map V.int) H Q
/-- what read_line tells -/
def ReqAt (H H2 : Hp) (t : Addr) : Req → Prop
  | .table tab => ∃ a, H2 t = some (.tup [.str "table", .ref a]) ∧ H a = none ∧ RowsN K H2 a (tab.map kindV)
  | .word w n => H2 t = some (.tup [.str w, .str n])
  | .take n ns => ∃ a, H2 t = some (.tup [.str "take", .str n, .ref a]) ∧ H a = none ∧ H2 a = some (.lst (ns.map V.int))
def sp_read_line : Sp := fun vs H Q _ => ∃ (tb : Addr) (line : Str) (r : Req), vs = [.ref tb, .str line] ∧ lineIs line r ∧ r.ok ∧ ∀ t H2, Ex H H2 → ReqAt K H H2 t r → Q (.ref t) H2
def sp_law_line : Sp := fun vs H Q _ => ∃ (a : Addr) (ns : List Int), vs = [.ref a] ∧ SqL K H a (ns.map V.int) ∧ cellsOk ns ∧ RetV (.str (numsLine ns)) H Q
def sp_law_table_line : Sp := fun vs H Q _ => ∃ (a : Addr) (tab : List Kd), vs = [.ref a] ∧ TabL K H a tab ∧ tabOk tab ∧ RetV (.str (tabLine tab)) H Q
end
end Sv
/-! Comparisons of data; more comprehensions. -/
namespace Sv
open PySem PySem.Spec PyProof.Rows L2 Evl TL
def pieD (p : Nat × Str) : PyData := .tuple [.int (p.1 : Int), .str p.2]
theorem dp_all {K : PySem.W.Frag} {H : Hp} {ts : List Addr} {ps : List (Nat × Str)} (h : A2 (fun t p => SqT K H t (pieV p)) ts ps) : DpAll K H (ts.map V.ref) (ps.map pieD) := by
  induction h with
  | nil => exact .nil
  | cons h _ ih => exact .cons (.tup h (.cons (.int _) (.cons (.str _) .nil))) ih
theorem dp_pies {K : PySem.W.Frag} {H : Hp} {a : Addr} {ps : List (Nat × Str)} (h : PieL K H a ps) : Dp K H (.ref a) (.list (ps.map pieD)) := by
  obtain ⟨ts, h1, h2⟩ := h
  exact .lst h1 (dp_all h2.of_map)
theorem strOk_of {s : Str} (h : ∀ c ∈ tl s, c < 1114112) : PyData.strOk s = true := by
  unfold PyData.strOk
  rw [Array.all_eq_true']
  intro c hc
  exact decide_eq_true (h c (by simpa using hc))
theorem shaped_pies {ps : List (Nat × Str)} (h : pieOk ps) : SeqAt.shaped (.list (ps.map pieD)) = true := by
  have h1 : ∀ l : List (Nat × Str), (∀ p ∈ l, nameOk p.2) → PyData.canLayAll0 (l.map pieD) = true ∧ PyData.depthAll (l.map pieD) ≤ 1 := by
    intro l
    induction l with
    | nil =>
      intro _
      exact ⟨by simp [PyData.canLayAll0], by simp [PyData.depthAll]⟩
    | cons p l ih =>
      intro hp
      obtain ⟨i1, i2⟩ := ih fun q hq => hp q (List.mem_cons_of_mem _ hq)
      have hs : PyData.strOk p.2 = true := strOk_of fun c hc => by
        have := (hp p (by simp)).2.2 c hc
        omega
      refine ⟨?_, ?_⟩
      · simp [PyData.canLayAll0, PyData.canLay0, pieD, hs, i1]
      · simp [PyData.depthAll, PyData.depth, pieD]
        omega
  obtain ⟨g1, g2⟩ := h1 ps fun p hp => (h.2 p hp).2
  unfold SeqAt.shaped
  rw [Bool.and_eq_true, decide_eq_true_eq]
  refine ⟨by simpa [PyData.canLay0] using g1, ?_⟩
  simp only [PyData.depth]
  omega
section
variable {K : PySem.W.Frag} {σ : L2.St} {H H' : Hp} {ta tb te tx to : TE} {t u : TT} {x y z v : V} {r : R2} {D : Ends} {tu tw tz : TS} {P P' : Hp → V → Hp → Prop}
theorem rv_eqNil {a p : Addr} {ps : List (Nat × Str)} (h : PieL K H a ps) (ho : pieOk ps) (hp : H p = some (.lst [])) : RV (rEqD K) (.ref a) (.ref p) H (.bl (decide (ps = []))) := fun H1 e Q q => by
  have ev : PyData.eqv (.list (ps.map pieD)) (.list []) = decide (ps = []) := by
    cases ps with
    | nil => simp [PyData.eqv, PyData.eqvAll]
    | cons p ps => simp [PyData.eqv, PyData.eqvAll]
  refine ⟨_, _, dp_pies (h.mono e), .lst (sq_of (e _ _ hp)) .nil, shaped_pies ho, by decide, ?_⟩
  rw [ev]
  exact q H1 (Ex.refl _)
/-- two lists of one text each -/
theorem rv_eq1 {a b : Addr} {s s' : Str} (h1 : SqL K H a [.str s]) (h2 : SqL K H b [.str s']) (o1 : PyData.strOk s = true) (o2 : PyData.strOk s' = true) : RV (rEqD K) (.ref a) (.ref b) H (.bl (s == s')) := fun H1 e Q q => by
  have sh : ∀ w : Str, PyData.strOk w = true → SeqAt.shaped (.list [.str w]) = true := fun w hw => by
    unfold SeqAt.shaped
    simp [PyData.canLay0, PyData.canLayAll0, PyData.depth, PyData.depthAll, hw]
  refine ⟨_, _, .lst (ex_l e h1) (.cons (.str s) .nil), .lst (ex_l e h2) (.cons (.str s') .nil), sh s o1, sh s' o2, ?_⟩
  have ev : PyData.eqv (.list [.str s]) (.list [.str s']) = (s == s') := by simp [PyData.eqv, PyData.eqvAll]
  rw [ev]
  exact q H1 (Ex.refl _)
theorem el_callG1 {sp : Sp} {dvs xs : List V} {E : XK} (hb : EvG tb σ H P) (hs : ∀ H1 v H2, Ex H H1 → P H1 v H2 → Ex H1 H2 → SpL sp ([v] ++ dvs) H2 xs) : EvL (tCall sp dvs E (tCons tb tNil)) σ H xs := fun H1 e Q q =>
  hb H1 e _ fun v H2 e2 p => hs H1 v H2 e p e2 H2 (Ex.refl _) Q (fun p' H3 hp e3 h3 => q p' H3 (fresh_back e2 hp) (e2.trans e3) h3) E
/-- [f(x) for x in a tuple] -/
theorem el_lcTup {a : Addr} {xs ys : List V} {j : Nat} {vs : List Nat} {tl' : TE} (hxy : xs.length = ys.length) (h : Ev tl' σ H (.ref a)) (hx : SqT K H a xs) (hz : xs.length ≤ 40000) (hw : ∀ x, wipe ((wipe σ vs).set j (some x)) vs = wipe σ vs)
    (he : ∀ (i : Nat) (x y : V) H1, Ex H H1 → xs[i]? = some x → ys[i]? = some y → Ev te ((wipe σ vs).set j (some x)) H1 y) : EvL (tLc (iTup K tl') (gName j) tYes te vs) σ H ys := fun H0 e Q q => h H0 e _ fun H1 e1 => ⟨a, rfl, ⟨_, ex_t (e.trans e1) hx⟩, fun Dl hD =>
  lc_tup (xs := xs) (fun i H' => Ex H1 H' ∧ H' Dl = some (.lst (ys.take i))) ⟨Ex.new hD, upd_same⟩ (fun i H' _ p => ex_t ((e.trans e1).trans p.1) hx) (fun i x H2 hi p => by
    have hil := lt_of_get hi
    have hiy : ys[i]? = some ys[i] := List.getElem?_eq_getElem (by omega)
    refine ⟨hw _, ?_⟩
    refine he i x _ H2 ((e.trans e1).trans p.1) hi hiy H2 (Ex.refl _) _ fun H4 e4 => ⟨_, e4 _ _ p.2, sz_lt (by rw [List.length_take]; omega), Ex.mut (p.1.trans e4) hD, ?_⟩
    rw [upd_same, List.take_succ_eq_append_getElem (by omega)]) (fun H' p => q Dl H' (fresh_back e1 hD) (e1.trans p.1) (by
      have p2 := p.2
      rw [hxy, List.take_length] at p2
      exact p2))⟩
/-- [f(row) for row in rows] -/
theorem el_lcRows {β : Type} {rf : β → List V} {a : Addr} {bs : List β} {j : Nat} {vs : List Nat} {tl' : TE} (f : β → V) (h : Ev tl' σ H (.ref a)) (hx : RowsL K H a (bs.map rf)) (hz : bs.length ≤ 40000) (hw : ∀ x, wipe ((wipe σ vs).set j (some x)) vs = wipe σ vs)
    (he : ∀ (b : β) (tk : Addr) H1, Ex H H1 → b ∈ bs → SqT K H1 tk (rf b) → Ev te ((wipe σ vs).set j (some (.ref tk))) H1 (f b)) : EvL (tLc (iList K tl') (gName j) tYes te vs) σ H (bs.map f) := fun H0 e Q q => h H0 e _ fun H1 e1 => by
  obtain ⟨ts, hl, hA0⟩ := hx
  have hA := hA0.of_map
  refine ⟨a, rfl, ⟨_, ex_l (e.trans e1) hl⟩, fun Dl hD =>
    lc_list (xs := ts.map V.ref) (fun i H' => Ex H1 H' ∧ H' Dl = some (.lst ((bs.take i).map f))) ⟨Ex.new hD, upd_same⟩ (fun i H' _ p => ex_l ((e.trans e1).trans p.1) hl) (fun i y H2 hi p => ?_) (fun H' p => q Dl H' (fresh_back e1 hD) (e1.trans p.1) ?_)⟩
  · obtain ⟨tk, htk, e4⟩ := map_get hi
    subst e4
    obtain ⟨b, hb, hT⟩ := hA.get' htk
    refine ⟨hw _, ?_⟩
    have := lt_of_get hb
    refine he b tk H2 ((e.trans e1).trans p.1) (List.mem_of_getElem? hb) (ex_t ((e.trans e1).trans p.1) hT) H2 (Ex.refl _) _ fun H4 e4 => ⟨_, e4 _ _ p.2, sz_lt (by rw [List.length_map, List.length_take]; omega), Ex.mut (p.1.trans e4) hD, ?_⟩
    rw [upd_same, List.take_succ_eq_append_getElem (lt_of_get hb), List.map_append, (List.getElem?_eq_some_iff.mp hb).2]
    rfl
  · have p2 := p.2
    rw [List.length_map, hA.length, List.take_length] at p2
    exact p2
theorem rv_notN (h : x = .non) : RV (fun x y H Q => y = .non ∧ Q (.bl (!decide (x = .non))) H) x .non H (.bl false) := fun H1 _ Q q => ⟨rfl, by
  rw [decide_eq_true h]
  exact q H1 (Ex.refl _)⟩
end
theorem pieW_tl (p : Nat × Str) : tl (pieW p) = numL p.1 ++ (58 :: tl p.2) := by
  unfold pieW
  rw [tl_append, tl_append, tl_numS, tl_colon, List.append_assoc]
  rfl
theorem pie_num {p : Nat × Str} {ps : List (Nat × Str)} (h : pieOk ps) (hp : p ∈ ps) : (numS (p.1 : Int)).length ≤ 4 ∧ p.2.length ≤ 8 := by
  obtain ⟨h1, h2⟩ := h.2 p hp
  rw [len_tl, len_tl, tl_numS]
  exact ⟨numL_len (by decide) (by exact Nat.lt_of_le_of_lt h1 (by decide)), h2.2.1⟩
theorem app_len (p s : Str) : (p ++ s).length = p.length + s.length := by rw [len_tl, len_tl, len_tl, tl_append, List.length_append]
theorem pieW_len {p : Nat × Str} {ps : List (Nat × Str)} (h : pieOk ps) (hp : p ∈ ps) : (pieW p).length ≤ 13 := by
  obtain ⟨h1, h2⟩ := pie_num h hp
  unfold pieW
  rw [app_len, app_len]
  have : (":" : Str).length = 1 := by decide +kernel
  omega
theorem pies_size {ps : List (Nat × Str)} (h : pieOk ps) : ((ps.map pieW).map (·.length)).sum + (ps.map pieW).length * (" " : Str).length ≤ 16777216 := by
  have h1 : ((ps.map pieW).map (·.length)).sum ≤ (ps.map pieW).length * 13 := sum_le fun x hx => by
    obtain ⟨p, hp, rfl⟩ := List.mem_map.mp hx
    exact pieW_len h hp
  have h2 : (" " : Str).length = 1 := by decide +kernel
  have h3 := h.1
  rw [List.length_map] at h1 ⊢
  rw [h2]
  omega
theorem eqs_false {w s : Str} {K : PySem.W.Frag} {σ : L2.St} {H : Hp} {ta : TE} (h : Ev ta σ H (.str w)) (hn : w ≠ s) : EvT (tTest (tOp rEq ta (tC (.str s)))) σ H false :=
  et_is (et_test (ev_op h ev_c (rv_eq rfl))) (decide_eq_false fun e => hn (V.str.inj e))
theorem eqs_true {s : Str} {K : PySem.W.Frag} {σ : L2.St} {H : Hp} {ta : TE} (h : Ev ta σ H (.str s)) : EvT (tTest (tOp rEq ta (tC (.str s)))) σ H true :=
  et_is (et_test (ev_op h ev_c (rv_eq rfl))) (decide_eq_true rfl)
theorem and_false1 {σ : L2.St} {H : Hp} {t u : TT} (h : EvT t σ H false) : EvT (tAnd t u) σ H false := et_is (et_and (a := false) (b := false) h fun z => nomatch z) rfl
theorem el_is {σ : L2.St} {H : Hp} {te : TE} {xs ys : List V} (h : EvL te σ H xs) (e : xs = ys) : EvL te σ H ys := by
  rw [← e]
  exact h
def LONE : List V := [.str "back", .str "again", .str "stock", .str "total", .str "sums"]
def ROLLW : List V := [.str "best", .str "count", .str "second", .str "free", .str "lay"]
def NAMEW : List V := [.str "begin", .str "close", .str "sure", .str "settled", .str "told", .str "drop"]
theorem word_facts : ∀ w ∈ nameWords, inV (.str w) LONE = false ∧ w ≠ "table" ∧ inV (.str w) ROLLW = false ∧ w ≠ "serve" ∧ w ≠ "sell" ∧ inV (.str w) NAMEW = true := by decide +kernel
end Sv
/-! The desk: its data, what it answers, its methods' promises. -/
namespace Sv
open PySem PySem.Spec PyProof.Rows L2 Evl TL
/-! ### plainly: what a feed answers, what the desk answers -/
def ansF (tab : List Kd) (s : FeedSt) : Req → Option (Str × FeedSt)
  | .take _ more => if s.ended = true then (if more = [] then some (cutLine [], s) else some ("no closed", s)) else some (cutLine (newlies tab s.ns more), ⟨s.ns ++ more, (sure (s.ns ++ more) tab).length, false⟩)
  | .word w _ => if w = "close" then (if s.ended = true then none else some (cutLine ((told s.ns tab).drop s.known), ⟨s.ns, (told s.ns tab).length, true⟩))
      else if w = "sure" then some (cutLine (sureF tab s), s)
      else if w = "settled" then some (numS ((stl tab s : Nat) : Int), s)
      else if w = "told" then some (cutLine (told s.ns tab), s) else none
  | .table _ => none
def Req.name : Req → Str
  | .table _ => Str.empty
  | .word _ n => n
  | .take n _ => n
def Req.more : Req → List Int
  | .take _ ns => ns
  | _ => []
abbrev DS : Type := List (Str × FeedSt)
def DS.get (A : DS) (n : Str) : Option FeedSt := (A.find? fun q => decide (q.1 = n)).map (·.2)
def DS.put (A : DS) (n : Str) (s : FeedSt) : DS := A.map fun q => if q.1 = n then (q.1, s) else q
def DS.cut (A : DS) (n : Str) : DS := A.filter fun q => decide (q.1 ≠ n)
def stepD (tab : List Kd) (A : DS) : Req → Option (Str × List Kd × DS)
  | .table tab' => some ("ok", tab', [])
  | .take n more => match A.get n with
    | some s => (ansF tab s (.take n more)).map fun q => (q.1, tab, A.put n q.2)
    | none => none
  | .word w n => match A.get n with
    | none => if w = "begin" ∧ A.length < 12 then some ("ok", tab, A ++ [(n, ⟨[], 0, false⟩)]) else none
    | some s => if w = "drop" then some ("ok", tab, A.cut n) else (ansF tab s (.word w n)).map fun q => (q.1, tab, A.put n q.2)
/-- what holds of a feed's state between two lines -/
def FeedInv (tab : List Kd) (s : FeedSt) : Prop := s.ns.length ≤ 200 ∧ (∀ c ∈ s.ns, 0 ≤ c) ∧ (s.ended = false → s.known = (sure s.ns tab).length)
/-! ### the pieces of a cutting -/
theorem mem_cut {roll : List Int} {tab : List Kd} (W : Wide tab) {e : Nat} {p : Nat × Str} (h : p ∈ cut roll tab e) : p.1 < e ∧ ∃ k ∈ tab, p.2 = k.name := by
  induction e using Nat.strongRecOn with
  | ind e ih =>
    by_cases h0 : 0 < e
    · have hb := back_lt (roll := roll) W e h0
      rw [cut_pos W h0] at h
      rcases List.mem_append.mp h with h | h
      · obtain ⟨h1, h2⟩ := ih _ hb h
        exact ⟨by omega, h2⟩
      · obtain ⟨j, rfl⟩ : ∃ j, e = j + 1 := ⟨e - 1, by omega⟩
        unfold piece at h
        by_cases hh : hgt roll tab (j + 1) = hgt roll tab j
        · rw [bk_same hh] at h
          simp at h
        · obtain ⟨k, hk, hm, _⟩ := lastK_some W hh
          rw [bk_kind hh hk] at h
          have e1 : p = (j + 1 - k.width, k.name) := by simpa using h
          rw [e1]
          have := W k hm
          exact ⟨by show j + 1 - k.width < j + 1; omega, k, hm, rfl⟩
    · have : e = 0 := by omega
      subst this
      rw [cut_zero] at h
      simp at h
theorem cut_len {roll : List Int} {tab : List Kd} (W : Wide tab) (e : Nat) : (cut roll tab e).length ≤ e := by
  induction e using Nat.strongRecOn with
  | ind e ih =>
    by_cases h0 : 0 < e
    · have hb := back_lt (roll := roll) W e h0
      have h1 := ih _ hb
      rw [cut_pos W h0, List.length_append]
      have h2 : (piece (bk roll tab e)).length ≤ 1 := by
        unfold piece
        split <;> simp
      omega
    · have : e = 0 := by omega
      subst this
      rw [cut_zero]
      simp
/-- the names of a table are names -/
def Named (tab : List Kd) : Prop := ∀ k ∈ tab, nameOk k.name
theorem pieOk_cut {roll : List Int} {tab : List Kd} (W : Wide tab) (N : Named tab) {e : Nat} (he : e ≤ 200) : pieOk (cut roll tab e) := by
  refine ⟨by have := cut_len (roll := roll) W e; omega, fun p hp => ?_⟩
  obtain ⟨h1, k, hk, h2⟩ := mem_cut W hp
  rw [h2]
  exact ⟨by omega, N k hk⟩
theorem pieOk.drop {ps : List (Nat × Str)} (h : pieOk ps) (n : Nat) : pieOk (ps.drop n) :=
  ⟨by rw [List.length_drop]; have := h.1; omega, fun p hp => h.2 p (List.mem_of_mem_drop hp)⟩
/-! ### the desk's object -/
abbrev CD (K : PySem.W.Frag) : Addr := He.ga K "Desk"
def df (kl st fd te un : V) : List (Str × V) := [("kinds", kl), ("store", st), ("feeds", fd), ("tellings", te), ("undone", un)]
section
variable (kl st fd te un : V)
theorem df_kinds : (df kl st fd te un).lookup ("kinds" : Str) = some kl := lk_here
theorem df_feeds : (df kl st fd te un).lookup ("feeds" : Str) = some fd := (lk_past (by decide +kernel)).trans ((lk_past (by decide +kernel)).trans lk_here)
theorem df_no {m : Str} (h1 : (m == ("kinds" : Str)) = false) (h2 : (m == ("store" : Str)) = false) (h3 : (m == ("feeds" : Str)) = false) (h4 : (m == ("tellings" : Str)) = false) (h5 : (m == ("undone" : Str)) = false) : (df kl st fd te un).lookup m = none :=
  (lk_past h1).trans ((lk_past h2).trans ((lk_past h3).trans ((lk_past h4).trans ((lk_past h5).trans rfl))))
theorem nk1 : ¬ (("kinds" : Str) = "store") := by decide +kernel
theorem nk2 : ¬ (("kinds" : Str) = "feeds") := by decide +kernel
theorem nk3 : ¬ (("kinds" : Str) = "tellings") := by decide +kernel
theorem nk4 : ¬ (("kinds" : Str) = "undone") := by decide +kernel
theorem ns2 : ¬ (("store" : Str) = "feeds") := by decide +kernel
theorem ns3 : ¬ (("store" : Str) = "tellings") := by decide +kernel
theorem ns4 : ¬ (("store" : Str) = "undone") := by decide +kernel
theorem nf3 : ¬ (("feeds" : Str) = "tellings") := by decide +kernel
theorem nf4 : ¬ (("feeds" : Str) = "undone") := by decide +kernel
theorem nt4 : ¬ (("tellings" : Str) = "undone") := by decide +kernel
theorem df_new : putF "undone" un (putF "tellings" te (putF "feeds" fd (putF "store" st (putF "kinds" kl [])))) = df kl st fd te un := by
  have a1 : putF "kinds" kl [] = ([("kinds", kl)] : List (Str × V)) := rfl
  have a2 : putF "store" st [(("kinds" : Str), kl)] = ([("kinds", kl), ("store", st)] : List (Str × V)) := (put_past nk1).trans rfl
  have a3 : putF "feeds" fd [(("kinds" : Str), kl), ("store", st)] = ([("kinds", kl), ("store", st), ("feeds", fd)] : List (Str × V)) := (put_past nk2).trans (congrArg _ ((put_past ns2).trans rfl))
  have a4 : putF "tellings" te [(("kinds" : Str), kl), ("store", st), ("feeds", fd)] = ([("kinds", kl), ("store", st), ("feeds", fd), ("tellings", te)] : List (Str × V)) := (put_past nk3).trans (congrArg _ ((put_past ns3).trans (congrArg _ ((put_past nf3).trans rfl))))
  have a5 : putF "undone" un [(("kinds" : Str), kl), ("store", st), ("feeds", fd), ("tellings", te)] = ([("kinds", kl), ("store", st), ("feeds", fd), ("tellings", te), ("undone", un)] : List (Str × V)) := (put_past nk4).trans (congrArg _ ((put_past ns4).trans (congrArg _ ((put_past nf4).trans (congrArg _ ((put_past nt4).trans rfl))))))
  rw [a1, a2, a3, a4, a5]
  rfl
theorem df_again (kl' st' fd' te' un' : V) : putF "undone" un' (putF "tellings" te' (putF "feeds" fd' (putF "store" st' (putF "kinds" kl' (df kl st fd te un))))) = df kl' st' fd' te' un' := by
  have a1 : putF "kinds" kl' (df kl st fd te un) = df kl' st fd te un := put_here
  have a2 : putF "store" st' (df kl' st fd te un) = df kl' st' fd te un := (put_past nk1).trans (congrArg _ put_here)
  have a3 : putF "feeds" fd' (df kl' st' fd te un) = df kl' st' fd' te un := (put_past nk2).trans (congrArg _ ((put_past ns2).trans (congrArg _ put_here)))
  have a4 : putF "tellings" te' (df kl' st' fd' te un) = df kl' st' fd' te' un := (put_past nk3).trans (congrArg _ ((put_past ns3).trans (congrArg _ ((put_past nf3).trans (congrArg _ put_here)))))
  have a5 : putF "undone" un' (df kl' st' fd' te' un) = df kl' st' fd' te' un' := (put_past nk4).trans (congrArg _ ((put_past ns4).trans (congrArg _ ((put_past nf4).trans (congrArg _ ((put_past nt4).trans (congrArg _ put_here)))))))
  rw [a1, a2, a3, a4, a5]
end
/-- a feed as it stands: its name, its object, its cells' list, its table's list, its dict, its state -/
structure FR where
  name : Str
  f : Addr
  cl : Addr
  tl : Addr
  dx : Addr
  s : FeedSt
def FR.abs (r : FR) : Str × FeedSt := (r.name, r.s)
structure DeskAt (K : PySem.W.Frag) (H : Hp) (d fd kl : Addr) (frs : List FR) (tab : List Kd) : Prop where
  ob : ∃ dx st te un, H d = some (.ins (CD K) dx (df (.ref kl) st (.ref fd) te un)) ∧ TabL K H kl tab ∧ (∃ xs, H kl = some (.lst xs)) ∧ ∀ r ∈ frs, kl ≠ r.cl
  fds : H fd = some (.dK (frs.map fun r => ((Sum.inr r.name : Key), V.ref r.f)))
  nd : (frs.map fun r => r.name).Nodup
  at_ : ∀ r ∈ frs, FeedAt K H r.f r.cl r.tl r.dx tab r.s
  fnd : (frs.map fun r => r.f).Nodup
  cnd : (frs.map fun r => r.cl).Nodup
  tln : ∀ r ∈ frs, ∀ r' ∈ frs, r.tl ≠ r'.cl
  inv : ∀ r ∈ frs, FeedInv tab r.s
  tlo : ∀ r ∈ frs, ∃ xs, H r.tl = some (.lst xs)
def owns (d fd kl : Addr) (frs : List FR) : List Addr := d :: fd :: kl :: ((frs.map fun r => r.f) ++ ((frs.map fun r => r.cl) ++ (frs.map fun r => r.tl)))
/-- the desk at d, all that it may change: own -/
def DeskA (K : PySem.W.Frag) (H : Hp) (d : Addr) (own : List Addr) (A : DS) (tab : List Kd) : Prop := ∃ fd kl frs, own = owns d fd kl frs ∧ frs.map FR.abs = A ∧ DeskAt K H d fd kl frs tab
/-- all else is as it was -/
def Frm (own : List Addr) (H H' : Hp) : Prop := ∀ a o, H a = some o → a ∉ own → H' a = some o
def Grow (own own' : List Addr) (H : Hp) : Prop := ∀ a ∈ own', a ∈ own ∨ H a = none
/-! ### the promises -/
section
variable (K : PySem.W.Frag)
def sp_Stock_init : Sp := fun vs H Q _ => ∃ (p dx tb : Addr) (xs : List V) (z : Int), vs = [.ref p, .ref tb, .int z] ∧ H p = some (.ins (He.ga K "Stock") dx []) ∧ SqL K H tb xs ∧ ∀ H', ExB p H H' → Q .non H'
def sp_Desk_init : Sp := fun vs H Q _ => ∃ (p dx : Addr), vs = [.ref p] ∧ H p = some (.ins (CD K) dx []) ∧ ∀ own H', DeskA K H' p own [] [] → ExB p H H' → (∀ a ∈ own, a = p ∨ H a = none) → Q .non H'
def sp_Desk_begun_anew : Sp := fun vs H Q _ => ∃ (d tb : Addr) (own : List Addr) (A : DS) (tab tab' : List Kd), vs = [.ref d, .ref tb] ∧ DeskA K H d own A tab ∧ TabL K H tb tab' ∧ (∃ xs, H tb = some (.lst xs)) ∧
  ∀ own' p H', DeskA K H' d own' [] tab' → Frm own H H' → (∀ a ∈ own', a ∈ own ∨ a = tb ∨ H a = none) → H p = none → H' p = some (.lst [.str "ok"]) → Q (.ref p) H'
/-- the request as it is handed on -/
def Asked (H : Hp) (t : Addr) (own : List Addr) : Req → Prop
  | .table _ => False
  | .word w n => SqT K H t [.str w, .str n]
  | .take n ns => ∃ a, SqT K H t [.str "take", .str n, .ref a] ∧ a ∉ own ∧ SqL K H a (ns.map V.int)
def sp_Desk_feed_lines : Sp := fun vs H Q _ => ∃ (d t f cl tl dx : Addr) (tab : List Kd) (s : FeedSt) (r : Req) (a : Str) (s' : FeedSt), vs = [.ref d, .ref t, .ref f] ∧ FeedAt K H f cl tl dx tab s ∧ FeedInv tab s ∧ Asked K H t [f, cl] r ∧ r.ok ∧
  tab.length ≤ 100 ∧ Wide tab ∧ Named tab ∧ s.ns.length + r.more.length ≤ 200 ∧ ansF tab s r = some (a, s') ∧
  ∀ p H', Ex2 f cl H H' → FeedAt K H' f cl tl dx tab s' → H p = none → H' p = some (.lst [.str a]) → Q (.ref p) H'
def sp_Desk_feed_said : Sp := fun vs H Q _ => ∃ (d t : Addr) (own : List Addr) (A : DS) (tab : List Kd) (r : Req) (a : Str) (A' : DS), vs = [.ref d, .ref t] ∧ DeskA K H d own A tab ∧ Asked K H t own r ∧ r.ok ∧ tab.length ≤ 100 ∧ Wide tab ∧ Named tab ∧
  (∀ s, A.get r.name = some s → s.ns.length + r.more.length ≤ 200) ∧ stepD tab A r = some (a, tab, A') ∧
  ∀ own' p H', DeskA K H' d own' A' tab → Frm own H H' → Grow own own' H → H p = none → H' p = some (.lst [.str a]) → Q (.ref p) H'
def sp_Desk_say : Sp := fun vs H Q _ => ∃ (d : Addr) (line : Str) (own : List Addr) (A : DS) (tab : List Kd) (r : Req) (a : Str) (tab' : List Kd) (A' : DS), vs = [.ref d, .str line] ∧ lineIs line r ∧ r.ok ∧ DeskA K H d own A tab ∧ tab.length ≤ 100 ∧ Wide tab ∧ Named tab ∧
  (∀ s, A.get r.name = some s → s.ns.length + r.more.length ≤ 200) ∧ stepD tab A r = some (a, tab', A') ∧
  ∀ own' p H', DeskA K H' d own' A' tab' → Frm own H H' → Grow own own' H → H p = none → H' p = some (.lst [.str a]) → Q (.ref p) H'
end
/-! ### words for them -/
section
variable {K : PySem.W.Frag} {σ : L2.St} {H H' : Hp} {ta tb te tx tv : TE} {x y z v : V} {D : Ends} {tz : TS} {P P' : Hp → V → Hp → Prop}
theorem s_fldB {a C dx : Addr} {f : Str} {n : Nat} (hv : EvG tv σ H P) (h : Ev ta σ H (.ref a)) (ho : ∃ fs, H a = some (.ins C dx fs) ∧ fs.length ≤ n) (hc : Cls K C) (hn : NoAttr K C f) (hl : n < 1000)
    (k : ∀ H1, ExB a H H1 → (∃ fs, H1 a = some (.ins C dx fs) ∧ fs.length ≤ n + 1) → D.nx σ H1) : sFld K ta tv f D σ H := by
  obtain ⟨fs, h1, h2⟩ := ho
  refine s_fldG hv h h1 hc hn (by omega) fun v H1 H2 e1 p e2 => k _ ((Ex.b (e1.trans e2) a).upd _) ⟨_, upd_same, ?_⟩
  have := length_putF f v fs
  omega
theorem q_fldB {a C dx : Addr} {f : Str} {n : Nat} (hv : EvG tv σ H P) (h : Ev ta σ H (.ref a)) (ho : ∃ fs, H a = some (.ins C dx fs) ∧ fs.length ≤ n) (hc : Cls K C) (hn : NoAttr K C f) (hl : n < 1000)
    (k : ∀ H1, ExB a H H1 → (∃ fs, H1 a = some (.ins C dx fs) ∧ fs.length ≤ n + 1) → tz D σ H1) : tSeq (sFld K ta tv f) tz D σ H := s_fldB (D := { D with nx := tz D }) hv h ho hc hn hl k
theorem eg_dnew : EvG tDNewK σ H (fun H v H2 => ∃ p, v = .ref p ∧ H p = none ∧ H2 p = some (.dK [])) := fun H1 e Q q p hp => q _ _ (Ex.new hp) ⟨p, rfl, hp, upd_same⟩
theorem eg_stock (ha : EvG ta σ H P) (hP : ∀ H1 v H2, Ex H H1 → Ex H1 H2 → P H1 v H2 → ∃ a xs, v = .ref a ∧ SqL K H2 a xs) : EvG (tMake (He.ga K "Stock") (sp_Stock_init K) [] E0 (tCons ta (tCons (tC (.int 1)) tNil))) σ H (fun H v H2 => ∃ x, v = .ref x) := fun H1 e Q q =>
  ha H1 e _ fun v H2 e2 p => by
    obtain ⟨a, xs, rfl, hs⟩ := hP H1 v H2 e e2 p
    intro x dx hx hdx hne
    have eN : Ex H2 (upd (upd H2 dx (.own x)) x (.ins (He.ga K "Stock") dx [])) := fun b o hb => by
      rw [upd_ne (ne_of_none hb hx), upd_ne (ne_of_none hb hdx)]
      exact hb
    exact ⟨x, dx, a, xs, 1, rfl, upd_same, ex_l eN hs, fun H' b => ⟨rfl, q _ _ (e2.trans (b.ex eN hx)) ⟨x, rfl⟩⟩⟩
end
end Sv
/-! Words for the desk's methods. -/
namespace Sv
open PySem PySem.Spec PyProof.Rows L2 Evl TL
section
variable {K : PySem.W.Frag} {H H' H1 H2 : Hp} {f cl a : Addr}
theorem Ex2.trans (x : Ex2 f cl H H1) (y : Ex2 f cl H1 H2) : Ex2 f cl H H2 := fun a o h n m => y a o (x a o h n m) n m
theorem ex_b2 (e : Ex H H1) (f cl : Addr) : Ex2 f cl H H1 := fun a o h _ _ => e a o h
theorem Ex2.seq {xs : List V} (b : Ex2 f cl H H') (h : SqL K H a xs) (n : a ≠ f) (m : a ≠ cl) : SqL K H' a xs := by
  rcases h with (h | ⟨o, h⟩) | h
  · exact .inl (.inl (b _ _ h n m))
  · exact .inl (.inr ⟨o, b _ _ h n m⟩)
  · exact .inr h
theorem Ex2.tup {C dx : Addr} {fs : List (Str × V)} {xs ys : List V} (b : Ex2 f cl H H') (h : SqT K H a xs) (hf : H f = some (.ins C dx fs)) (hc : H cl = some (.lst ys)) : SqT K H' a xs := by
  rcases h with (h | ⟨o, h⟩) | h
  · exact .inl (.inl (b _ _ h (fun e => by rw [e, hf] at h; cases h) fun e => by rw [e, hc] at h; cases h))
  · exact .inl (.inr ⟨o, b _ _ h (fun e => by rw [e, hf] at h; cases h) fun e => by rw [e, hc] at h; cases h⟩)
  · exact .inr h
theorem SqL.ne_ins {C dx : Addr} {fs : List (Str × V)} {xs : List V} (h : SqL K H a xs) (hf : H f = some (.ins C dx fs)) : a ≠ f ∨ (∀ H' : Hp, SqL K H' a xs) := by
  rcases h with (h | ⟨o, h⟩) | h
  · exact .inl fun e => by rw [e, hf] at h; cases h
  · exact .inl fun e => by rw [e, hf] at h; cases h
  · exact .inr fun _ => .inr h
theorem Ex2.rowsL {C dx : Addr} {fs : List (Str × V)} {rows : List (List V)} {ys : List V} (b : Ex2 f cl H H') (h : RowsL K H a rows) (hf : H f = some (.ins C dx fs)) (hc : H cl = some (.lst ys)) (n : a ≠ cl) : RowsL K H' a rows := by
  obtain ⟨ts, h1, h2⟩ := h
  refine ⟨ts, ?_, h2.mono fun _ _ q => b.tup q hf hc⟩
  rcases SqL.ne_ins h1 hf with m | m
  · exact b.seq h1 m n
  · exact m _
theorem Ex2.rowsN {C dx : Addr} {fs : List (Str × V)} {rows : List (List V)} {ys : List V} (b : Ex2 f cl H H') (h : RowsN K H a rows) (hf : H f = some (.ins C dx fs)) (hc : H cl = some (.lst ys)) (n : a ≠ cl) : RowsN K H' a rows := by
  obtain ⟨ts, h1, h2⟩ := h
  exact ⟨ts, b _ _ h1 (ne_of h1 hf (by intro z; cases z)) n, h2.mono fun _ _ q => b.tup q hf hc⟩
end
section
variable {K : PySem.W.Frag} {σ : L2.St} {H H' : Hp} {ta tb te tx to : TE} {D : Ends} {tu tw tz : TS}
/-- return [show_cutting(..)] -/
def Kshow (K : PySem.W.Frag) (E : XK) (D : Ends) : VK := fun v H1 => sp_show_cutting K [v] H1 (fun x H2 => 1 ≤ sizeLine ∧ ∀ l, H2 l = none → D.rt (.ref l) (upd H2 l (.lst [x]))) E
theorem s_retShow {E : XK} (h : te σ H (Kshow K E D)) : tRet (tLst (tCons (tCall (sp_show_cutting K) [] E (tCons te tNil)) tNil)) D σ H := h
theorem kshow {E : XK} {p : Addr} {ps : List (Nat × Str)} (h : PieL K H p ps) (ho : pieOk ps) (k : ∀ l H2, H l = none → Ex H H2 → H2 l = some (.lst [.str (cutLine ps)]) → D.rt (.ref l) H2) : Kshow K E D (.ref p) H :=
  ⟨p, ps, rfl, h, ho, fun H1 e1 => ⟨by decide, fun l hl => k l _ (fresh_back e1 hl) (e1.trans (Ex.new hl)) upd_same⟩⟩
/-- l.extend(..) -/
def Kext (l : Addr) (D : Ends) (σ : L2.St) : VK := fun v H2 => rExtend (.ref l) [v] H2 (fun _ H3 => D.nx σ H3)
theorem s_ext {l : Addr} {xs : List V} (hl : H l = some (.lst xs)) (ha : Ev ta σ H (.ref l)) (h : ∀ H1, Ex H H1 → te σ H1 (Kext l D σ)) : tDrop (tBM K "list" rExtend ta (tCons te tNil)) D σ H :=
  ha H (Ex.refl H) _ fun H1 e1 => ⟨Or.inl ⟨rfl, xs, sq_of (e1 l _ hl)⟩, h H1 e1⟩
theorem kext {l b : Addr} {rows rows2 : List (List V)} (hl : RowsN K H l rows) (hb : RowsN K H b rows2) (hz : rows.length + rows2.length ≤ 100000) (k : ∀ H1, ExB l H H1 → RowsN K H1 l (rows ++ rows2) → D.nx σ H1) : Kext l D σ (.ref b) H := by
  obtain ⟨ts, h1, h2⟩ := hl
  obtain ⟨us, g1, g2⟩ := hb
  refine ⟨l, b, _, _, rfl, rfl, h1, g1, ?_, k _ ((Ex.b (Ex.refl _) l).upd _) ⟨ts ++ us, by rw [upd_same, List.map_append], ?_⟩⟩
  · rw [List.length_map, List.length_map, h2.length, g2.length]
    exact sz_of hz
  · exact (h2.mono fun _ _ q => sqt_lst q h1 _).append (g2.mono fun _ _ q => sqt_lst q h1 _)
theorem atI_zero {x : V} {xs : List V} : atI (x :: xs) 0 = some x := atI_nat (j := 0) (by rfl)
theorem eqt_true {a : Addr} {s : Str} {xs : List V} (h : Ev ta σ H (.ref a)) (hs : SqT K H a (.str s :: xs)) : EvT (tTest (tOp rEq (tOp (rIxT K) ta (tC (.int 0))) (tC (.str s)))) σ H true := eqs_true (K := K) (ev_op h ev_c (rv_ixT hs atI_zero))
theorem eqt_false {a : Addr} {w s : Str} {xs : List V} (h : Ev ta σ H (.ref a)) (hs : SqT K H a (.str w :: xs)) (hn : w ≠ s) : EvT (tTest (tOp rEq (tOp (rIxT K) ta (tC (.int 0))) (tC (.str s)))) σ H false := eqs_false (K := K) (ev_op h ev_c (rv_ixT hs atI_zero)) hn
theorem eqt_dec {a : Addr} {w s : Str} {xs : List V} (h : Ev ta σ H (.ref a)) (hs : SqT K H a (.str w :: xs)) : EvT (tTest (tOp rEq (tOp (rIxT K) ta (tC (.int 0))) (tC (.str s)))) σ H (decide (w = s)) := by
  by_cases e : w = s
  · subst e
    rw [decide_eq_true rfl]
    exact eqt_true h hs
  · rw [decide_eq_false e]
    exact eqt_false h hs e
end
/-- a feed behind some cells more -/
def stT (tab : List Kd) (s : FeedSt) (more : List Int) : FeedSt := if s.ended = true then s else ⟨s.ns ++ more, (sure (s.ns ++ more) tab).length, false⟩
theorem stT_nil {tab : List Kd} {s : FeedSt} (h : FeedInv tab s) : stT tab s [] = s := by
  unfold stT
  split
  · rfl
  · rename_i hf
    have hf : s.ended = false := by simpa using hf
    rw [List.append_nil, ← h.2.2 hf, ← hf]
theorem pieOk_newlies {tab : List Kd} (W : Wide tab) (N : Named tab) {ns more : List Int} (hm : ∀ c ∈ more, 0 ≤ c) (hl : ns.length + more.length ≤ 200) : pieOk (newlies tab ns more) := by
  rw [newlies_eq W hm]
  exact (pieOk_cut W N (Nat.le_trans (settled_le W) (by rw [List.length_append]; exact hl))).drop _
theorem ansF_take (tab : List Kd) (s : FeedSt) (n : Str) (more : List Int) : ansF tab s (.take n more) = if s.ended = true then (if more = [] then some (cutLine [], s) else some ("no closed", s)) else some (cutLine (newlies tab s.ns more), ⟨s.ns ++ more, (sure (s.ns ++ more) tab).length, false⟩) := rfl
theorem ansF_word (tab : List Kd) (s : FeedSt) (w n : Str) : ansF tab s (.word w n) = if w = "close" then (if s.ended = true then none else some (cutLine ((told s.ns tab).drop s.known), ⟨s.ns, (told s.ns tab).length, true⟩))
      else if w = "sure" then some (cutLine (sureF tab s), s)
      else if w = "settled" then some (numS ((stl tab s : Nat) : Int), s)
      else if w = "told" then some (cutLine (told s.ns tab), s) else none := rfl
end Sv
/-! The desk from one line to the next. -/
namespace Sv
open PySem PySem.Spec PyProof.Rows L2 Evl TL
theorem nodup_inj {α β : Type} {g : α → β} : ∀ {l : List α}, (l.map g).Nodup → ∀ {x y : α}, x ∈ l → y ∈ l → g x = g y → x = y
  | [], _, _, _, hx, _, _ => absurd hx (by simp)
  | z :: l, h, x, y, hx, hy, e => by
    rw [List.map_cons, List.nodup_cons] at h
    rcases List.mem_cons.mp hx with h1 | h1
    · rcases List.mem_cons.mp hy with h2 | h2
      · rw [h1, h2]
      · exact absurd (by rw [← h1, e]; exact List.mem_map_of_mem h2) h.1
    · rcases List.mem_cons.mp hy with h2 | h2
      · exact absurd (by rw [← h2, ← e]; exact List.mem_map_of_mem h1) h.1
      · exact nodup_inj h.2 h1 h2 e
theorem nodup_filter {α β : Type} {g : α → β} (p : α → Bool) {l : List α} (h : (l.map g).Nodup) : ((l.filter p).map g).Nodup :=
  h.sublist (List.Sublist.map g List.filter_sublist)
theorem nodup_snoc {α β : Type} {g : α → β} {l : List α} {x : α} (h : (l.map g).Nodup) (hx : ∀ y ∈ l, g y ≠ g x) : ((l ++ [x]).map g).Nodup := by
  rw [List.map_append, List.nodup_append]
  refine ⟨h, by simp, fun a ha b hb => ?_⟩
  obtain ⟨y, hy, rfl⟩ := List.mem_map.mp ha
  have : b = g x := by simpa using hb
  rw [this]
  exact hx y hy
theorem find_none {l : List FR} {n : Str} (h : l.find? (fun q => decide (q.name = n)) = none) : ∀ q ∈ l, q.name ≠ n := fun q hq e => by
  have := List.find?_eq_none.mp h q hq
  exact this (decide_eq_true e)
def kvsOf (frs : List FR) : List (Key × V) := frs.map fun r => ((Sum.inr r.name : Key), V.ref r.f)
theorem get_find (frs : List FR) (n : Str) : DS.get (frs.map FR.abs) n = (frs.find? fun q => decide (q.name = n)).map (·.s) := by
  unfold DS.get
  rw [List.find?_map, Option.map_map]
  rfl
theorem val_find (frs : List FR) (n : Str) : valV (kvsOf frs) (Sum.inr n) = (frs.find? fun q => decide (q.name = n)).map fun q => V.ref q.f := by
  unfold valV kvsOf
  rw [List.find?_map, Option.map_map]
  have e : ((fun kv : Key × V => decide (kv.1 = Sum.inr n)) ∘ fun r : FR => ((Sum.inr r.name : Key), V.ref r.f)) = fun q => decide (q.name = n) := by
    funext q
    show decide ((Sum.inr q.name : Key) = Sum.inr n) = decide (q.name = n)
    by_cases h : q.name = n
    · rw [h, decide_eq_true rfl, decide_eq_true rfl]
    · rw [decide_eq_false h, decide_eq_false fun e => h (Sum.inr.inj e)]
  rw [e]
  rfl
theorem find_some {l : List FR} {n : Str} {r : FR} (h : l.find? (fun q => decide (q.name = n)) = some r) : r ∈ l ∧ r.name = n :=
  ⟨List.mem_of_find?_eq_some h, by have h1 := List.find?_some h; simpa using h1⟩
def upF (n : Str) (s : FeedSt) (q : FR) : FR := if q.name = n then { q with s := s } else q
theorem upF_name (n : Str) (s : FeedSt) (q : FR) : (upF n s q).name = q.name := by unfold upF; split <;> rfl
theorem upF_f (n : Str) (s : FeedSt) (q : FR) : (upF n s q).f = q.f := by unfold upF; split <;> rfl
theorem upF_cl (n : Str) (s : FeedSt) (q : FR) : (upF n s q).cl = q.cl := by unfold upF; split <;> rfl
theorem upF_tl (n : Str) (s : FeedSt) (q : FR) : (upF n s q).tl = q.tl := by unfold upF; split <;> rfl
theorem upF_map {β : Type} {g : FR → β} {n : Str} {s : FeedSt} (hg : ∀ q, g (upF n s q) = g q) (l : List FR) : (l.map (upF n s)).map g = l.map g := by
  rw [List.map_map]
  exact List.map_congr_left fun q _ => hg q
theorem put_abs (frs : List FR) (n : Str) (s : FeedSt) : (frs.map (upF n s)).map FR.abs = DS.put (frs.map FR.abs) n s := by
  unfold DS.put
  rw [List.map_map, List.map_map]
  refine List.map_congr_left fun q _ => ?_
  show FR.abs (upF n s q) = if q.name = n then (q.name, s) else (q.name, q.s)
  unfold upF
  split <;> rfl
theorem cut_abs (frs : List FR) (n : Str) : (frs.filter fun q => decide (q.name ≠ n)).map FR.abs = DS.cut (frs.map FR.abs) n := by
  unfold DS.cut
  rw [List.filter_map]
  rfl
theorem owns_up (d fd kl : Addr) (frs : List FR) (n : Str) (s : FeedSt) : owns d fd kl (frs.map (upF n s)) = owns d fd kl frs := by
  unfold owns
  rw [upF_map (upF_f n s), upF_map (upF_cl n s), upF_map (upF_tl n s)]
theorem mem_owns {d fd kl a : Addr} {frs : List FR} : a ∈ owns d fd kl frs ↔ a = d ∨ a = fd ∨ (∃ r ∈ frs, r.f = a) ∨ (∃ r ∈ frs, r.cl = a) ∨ a = kl ∨ ∃ r ∈ frs, r.tl = a := by
  unfold owns
  simp only [List.mem_cons, List.mem_append, List.mem_map]
  constructor
  · rintro (h | h | h | h | h | h)
    · exact .inl h
    · exact .inr (.inl h)
    · exact .inr (.inr (.inr (.inr (.inl h))))
    · exact .inr (.inr (.inl h))
    · exact .inr (.inr (.inr (.inl h)))
    · exact .inr (.inr (.inr (.inr (.inr h))))
  · rintro (h | h | h | h | h | h)
    · exact .inl h
    · exact .inr (.inl h)
    · exact .inr (.inr (.inr (.inl h)))
    · exact .inr (.inr (.inr (.inr (.inl h))))
    · exact .inr (.inr (.inl h))
    · exact .inr (.inr (.inr (.inr (.inr h))))
section
variable {K : PySem.W.Frag} {H H' : Hp} {d fd kl : Addr} {frs : List FR} {tab : List Kd}
theorem ExB.rowsX {l a : Addr} {rows : List (List V)} {kvs : List (Key × V)} (b : ExB l H H') (h : RowsL K H a rows) (hl : H l = some (.dK kvs)) : RowsL K H' a rows := by
  obtain ⟨ts, h1, h2⟩ := h
  refine ⟨ts, ?_, h2.mono fun t r q => ?_⟩
  · rcases h1 with (h | ⟨o, h⟩) | h
    · exact .inl (.inl (b _ _ h fun e => by rw [e, hl] at h; cases h))
    · exact .inl (.inr ⟨o, b _ _ h fun e => by rw [e, hl] at h; cases h⟩)
    · exact .inr h
  · rcases q with (h | ⟨o, h⟩) | h
    · exact .inl (.inl (b _ _ h fun e => by rw [e, hl] at h; cases h))
    · exact .inl (.inr ⟨o, b _ _ h fun e => by rw [e, hl] at h; cases h⟩)
    · exact .inr h
theorem FeedAt.dk {l f cl tl dx : Addr} {s : FeedSt} {kvs : List (Key × V)} (b : ExB l H H') (h : FeedAt K H f cl tl dx tab s) (hl : H l = some (.dK kvs)) : FeedAt K H' f cl tl dx tab s :=
  ⟨b _ _ h.ob (ne_of h.ob hl (by intro z; cases z)), b _ _ h.came (ne_of h.came hl (by intro z; cases z)), b.rowsX h.tabl hl, h.ne⟩
theorem DeskAt.mono (D : DeskAt K H d fd kl frs tab) (e : Ex H H') : DeskAt K H' d fd kl frs tab := by
  obtain ⟨dx, st, te, un, h1, h2, ⟨xs, h3⟩, h4⟩ := D.ob
  exact ⟨⟨dx, st, te, un, e _ _ h1, h2.mono e, ⟨xs, e _ _ h3⟩, h4⟩, e _ _ D.fds, D.nd, fun r hr => (D.at_ r hr).mono e, D.fnd, D.cnd, D.tln, D.inv, fun r hr => by
    obtain ⟨xs, h⟩ := D.tlo r hr
    exact ⟨xs, e _ _ h⟩⟩
/-- a feed told something -/
theorem DeskAt.put (D : DeskAt K H d fd kl frs tab) {r : FR} (hr : r ∈ frs) {s : FeedSt} (b : Ex2 r.f r.cl H H') (F : FeedAt K H' r.f r.cl r.tl r.dx tab s) (I : FeedInv tab s) : DeskAt K H' d fd kl (frs.map (upF r.name s)) tab := by
  obtain ⟨dx, st, te, un, h1, h2, ⟨xs, h3⟩, h4⟩ := D.ob
  have F0 := D.at_ r hr
  have kd : ∀ {a : Addr} {o : HO}, H a = some o → a ≠ r.f → a ≠ r.cl → H' a = some o := fun h n m => b _ _ h n m
  have up : ∀ q' ∈ frs.map (upF r.name s), ∃ q ∈ frs, q' = upF r.name s q := fun q' h => by
    obtain ⟨q, hq, rfl⟩ := List.mem_map.mp h
    exact ⟨q, hq, rfl⟩
  refine ⟨⟨dx, st, te, un, kd h1 (ne_of h1 F0.ob fun z => ?_) (ne_of h1 F0.came (by intro z; cases z)), b.rowsL h2 F0.ob F0.came (h4 r hr), ⟨xs, kd h3 (ne_of h3 F0.ob (by intro z; cases z)) (h4 r hr)⟩, fun q' hq' => ?_⟩, ?_, ?_, fun q' hq' => ?_, ?_, ?_, fun q' hq' p' hp' => ?_, fun q' hq' => ?_, fun q' hq' => ?_⟩
  · have z2 := HO.ins.inj z
    have z3 := congrArg List.length z2.2.2
    have z4 : (5 : Nat) = 4 := z3
    omega
  · obtain ⟨q, hq, rfl⟩ := up q' hq'
    rw [upF_cl]
    exact h4 q hq
  · rw [kd D.fds (ne_of D.fds F0.ob (by intro z; cases z)) (ne_of D.fds F0.came (by intro z; cases z)), List.map_map]
    have e : (frs.map fun r => ((Sum.inr r.name : Key), V.ref r.f)) = frs.map ((fun r => ((Sum.inr r.name : Key), V.ref r.f)) ∘ upF r.name s) := List.map_congr_left fun q _ => by
      show _ = ((Sum.inr (upF r.name s q).name : Key), V.ref (upF r.name s q).f)
      rw [upF_name, upF_f]
    rw [e]
  · rw [upF_map (g := fun r => r.name) (upF_name _ _)]
    exact D.nd
  · obtain ⟨q, hq, rfl⟩ := up q' hq'
    by_cases hn : q.name = r.name
    · have e := nodup_inj D.nd hq hr hn
      subst e
      unfold upF
      rw [if_pos rfl]
      exact F
    · have Fq := D.at_ q hq
      have e : upF r.name s q = q := by
        unfold upF
        rw [if_neg hn]
      rw [e]
      have n1 : q.f ≠ r.f := fun z => hn (by rw [nodup_inj D.fnd hq hr z])
      have n2 : q.cl ≠ r.cl := fun z => hn (by rw [nodup_inj D.cnd hq hr z])
      exact ⟨kd Fq.ob n1 (ne_of Fq.ob F0.came (by intro z; cases z)), kd Fq.came (ne_of Fq.came F0.ob (by intro z; cases z)) n2, b.rowsL Fq.tabl F0.ob F0.came (D.tln q hq r hr), Fq.ne⟩
  · rw [upF_map (g := fun r => r.f) (upF_f _ _)]
    exact D.fnd
  · rw [upF_map (g := fun r => r.cl) (upF_cl _ _)]
    exact D.cnd
  · obtain ⟨q, hq, rfl⟩ := up q' hq'
    obtain ⟨p, hp, rfl⟩ := up p' hp'
    rw [upF_tl, upF_cl]
    exact D.tln q hq p hp
  · obtain ⟨q, hq, rfl⟩ := up q' hq'
    unfold upF
    split
    · exact I
    · exact D.inv q hq
  · obtain ⟨q, hq, rfl⟩ := up q' hq'
    rw [upF_tl]
    obtain ⟨ys, hy⟩ := D.tlo q hq
    exact ⟨ys, kd hy (ne_of hy F0.ob (by intro z; cases z)) (D.tln q hq r hr)⟩
/-- a feed more -/
theorem DeskAt.add (D : DeskAt K H d fd kl frs tab) {r : FR} (hn : ∀ q ∈ frs, q.name ≠ r.name) (b : ExB fd H H') (hfd : H' fd = some (.dK (kvsOf (frs ++ [r])))) (h1 : H r.f = none) (h2 : H r.cl = none) (h3 : H r.tl = none)
    (F : FeedAt K H' r.f r.cl r.tl r.dx tab r.s) (hs : r.s = ⟨[], 0, false⟩) (W : Wide tab) (ht : ∃ xs, H' r.tl = some (.lst xs)) : DeskAt K H' d fd kl (frs ++ [r]) tab := by
  obtain ⟨dx, st, te, un, g1, g2, ⟨xs, g3⟩, g4⟩ := D.ob
  have sp : ∀ q ∈ frs ++ [r], q ∈ frs ∨ q = r := fun q hq => by simpa using hq
  refine ⟨⟨dx, st, te, un, b _ _ g1 (ne_of g1 D.fds (by intro z; cases z)), b.rowsX g2 D.fds, ⟨xs, b _ _ g3 (ne_of g3 D.fds (by intro z; cases z))⟩, fun q hq => ?_⟩, hfd, nodup_snoc D.nd hn, fun q hq => ?_, nodup_snoc D.fnd fun q hq => ne_of_none (D.at_ q hq).ob h1, nodup_snoc D.cnd fun q hq => ne_of_none (D.at_ q hq).came h2, fun q hq p hp => ?_, fun q hq => ?_, fun q hq => ?_⟩
  · rcases sp q hq with h | rfl
    · exact g4 q h
    · exact ne_of_none g3 h2
  · rcases sp q hq with h | rfl
    · exact FeedAt.dk b (D.at_ q h) D.fds
    · exact F
  · rcases sp q hq with h | rfl
    · rcases sp p hp with h' | rfl
      · exact D.tln q h p h'
      · obtain ⟨ys, hy⟩ := D.tlo q h
        exact ne_of_none hy h2
    · rcases sp p hp with h' | rfl
      · exact (ne_of_none (D.at_ p h').came h3).symm
      · exact F.ne
  · rcases sp q hq with h | rfl
    · exact D.inv q h
    · rw [hs]
      refine ⟨by simp, by simp, fun _ => ?_⟩
      have : (sure ([] : List Int) tab).length ≤ 0 := Nat.le_trans (cut_len W _) (settled_le W)
      show 0 = (sure ([] : List Int) tab).length
      omega
  · rcases sp q hq with h | rfl
    · obtain ⟨ys, hy⟩ := D.tlo q h
      exact ⟨ys, b _ _ hy (ne_of hy D.fds (by intro z; cases z))⟩
    · exact ht
/-- a feed less -/
theorem DeskAt.cut (D : DeskAt K H d fd kl frs tab) {n : Str} (b : ExB fd H H') (hfd : H' fd = some (.dK (kvsOf (frs.filter fun q => decide (q.name ≠ n))))) : DeskAt K H' d fd kl (frs.filter fun q => decide (q.name ≠ n)) tab := by
  obtain ⟨dx, st, te, un, g1, g2, ⟨xs, g3⟩, g4⟩ := D.ob
  have sp : ∀ q ∈ frs.filter (fun q => decide (q.name ≠ n)), q ∈ frs := fun q hq => (List.mem_filter.mp hq).1
  refine ⟨⟨dx, st, te, un, b _ _ g1 (ne_of g1 D.fds (by intro z; cases z)), b.rowsX g2 D.fds, ⟨xs, b _ _ g3 (ne_of g3 D.fds (by intro z; cases z))⟩, fun q hq => g4 q (sp q hq)⟩, hfd, nodup_filter _ D.nd, fun q hq => FeedAt.dk b (D.at_ q (sp q hq)) D.fds, nodup_filter _ D.fnd, nodup_filter _ D.cnd, fun q hq p hp => D.tln q (sp q hq) p (sp p hp), fun q hq => D.inv q (sp q hq), fun q hq => ?_⟩
  obtain ⟨ys, hy⟩ := D.tlo q (sp q hq)
  exact ⟨ys, b _ _ hy (ne_of hy D.fds (by intro z; cases z))⟩
theorem kvs_put {frs : List FR} {r : FR} (hn : ∀ q ∈ frs, q.name ≠ r.name) : putK (kvsOf frs) (Sum.inr r.name) (.ref r.f) = kvsOf (frs ++ [r]) := by
  unfold putK
  rw [valV_any, val_find]
  have e : frs.find? (fun q => decide (q.name = r.name)) = none := List.find?_eq_none.mpr fun q hq => by
    rw [decide_eq_false (hn q hq)]
    decide
  rw [e, if_neg (by decide)]
  unfold kvsOf
  rw [List.map_append]
  rfl
theorem kvs_cut (frs : List FR) (n : Str) : dropK (kvsOf frs) (Sum.inr n) = kvsOf (frs.filter fun q => decide (q.name ≠ n)) := by
  unfold dropK kvsOf
  rw [List.filter_map]
  have e : ((fun kv : Key × V => decide (kv.1 ≠ Sum.inr n)) ∘ fun r : FR => ((Sum.inr r.name : Key), V.ref r.f)) = fun q => decide (q.name ≠ n) := by
    funext q
    show decide ((Sum.inr q.name : Key) ≠ Sum.inr n) = decide (q.name ≠ n)
    simp
  rw [e]
end
section
variable {K : PySem.W.Frag} {σ : L2.St} {H H' : Hp} {ta td ty tv te : TE} {D : Ends} {tz : TS} {P : Hp → V → Hp → Prop} {x : V}
theorem s_retRaw (h : te σ H D.rt) : tRet te D σ H := h
theorem atI_one {x y : V} {xs : List V} : atI (x :: y :: xs) 1 = some y := atI_nat (j := 1) (by rfl)
theorem ev_din {d : Addr} {kvs : List (Key × V)} {k : Key} (hy : Ev ty σ H (kV k)) (hd : Ev td σ H (.ref d)) (h : H d = some (.dK kvs)) : Ev (tDIn ty td) σ H (.bl (valV kvs k).isSome) := fun H1 e Q q =>
  hy H1 e _ fun H2 e2 => hd H2 (e.trans e2) _ fun H3 e3 => ⟨d, _, rfl, DGet.k (((e.trans e2).trans e3) _ _ h), q H3 (e2.trans e3)⟩
theorem ev_lenD {d : Addr} {kvs : List (Key × V)} (hd : Ev td σ H (.ref d)) (h : H d = some (.dK kvs)) : Ev (tCB (fun xs H Q => ∃ a kvs, xs = [V.ref a] ∧ H a = some (.dK kvs) ∧ Q (.int kvs.length) H) (tCons td tNil)) σ H (.int (kvs.length : Int)) := fun H1 e Q q =>
  hd H1 e _ fun H2 e2 => ⟨d, kvs, rfl, (e.trans e2) _ _ h, q H2 e2⟩
theorem q_dputG {d : Addr} {kvs : List (Key × V)} {k : Key} (hv : EvG tv σ H P) (hd : Ev td σ H (.ref d)) (hy : Ev ty σ H (kV k)) (h : H d = some (.dK kvs)) (hz : kvs.length < 100000) (q : ∀ v H1 H2 H3, Ex H H1 → P H v H1 → Ex H1 H2 → ExB d H2 H3 → H3 d = some (.dK (putK kvs k v)) → tz D σ H3) : tSeq (sDPut td ty tv) tz D σ H :=
  hv H (Ex.refl H) _ fun v H1 e1 p => hd H1 e1 _ fun H2 e2 => hy H2 (e1.trans e2) _ fun H3 e3 => ⟨d, _, rfl, DPut.k (((e1.trans e2).trans e3) _ _ h) (sz_lt hz), q v H1 H3 _ e1 p (e2.trans e3) ((Ex.b (Ex.refl _) d).upd _) upd_same⟩
theorem q_dpop {d : Addr} {kvs : List (Key × V)} {k : Key} {v : V} (hd : Ev td σ H (.ref d)) (hy : Ev ty σ H (kV k)) (h : H d = some (.dK kvs)) (hv : valV kvs k = some v) (q : ∀ H1, ExB d H H1 → H1 d = some (.dK (dropK kvs k)) → tz D σ H1) : tSeq (tDrop (tDPop1 td ty)) tz D σ H :=
  hd H (Ex.refl H) _ fun H1 e1 => ⟨d, rfl, .inl ⟨kvs, .inl (e1 _ _ h)⟩, hy H1 e1 _ fun H2 e2 => ⟨kvs, k, v, (e1.trans e2) _ _ h, rfl, hv, q _ ((Ex.b (e1.trans e2) d).upd _) upd_same⟩⟩
theorem eg_feed {tab : List Kd} {tb : Addr} (ha : Ev ta σ H (.ref tb)) (hT : TabL K H tb tab) : EvG (tMake (He.ga K "Feed") (sp_Feed_init K) [] E0 (tCons ta tNil)) σ H (fun H v H2 => ∃ p cl tl dx, v = .ref p ∧ H p = none ∧ H cl = none ∧ H tl = none ∧ (∃ xs, H2 tl = some (.lst xs)) ∧ FeedAt K H2 p cl tl dx tab ⟨[], 0, false⟩) := fun H1 e Q q =>
  ha H1 e _ fun H2 e2 => by
    intro x dx hx hdx hne
    have eN : Ex H2 (upd (upd H2 dx (.own x)) x (.ins (He.ga K "Feed") dx [])) := fun b o hb => by
      rw [upd_ne (ne_of_none hb hx), upd_ne (ne_of_none hb hdx)]
      exact hb
    refine ⟨x, dx, tb, tab, rfl, upd_same, hT.mono ((e.trans e2).trans eN), fun cl tl H' hcl htl hto F b => ⟨rfl, q _ _ (e2.trans (b.ex eN hx)) ⟨x, cl, tl, dx, rfl, fresh_back e2 hx, fresh_back (e2.trans eN) hcl, fresh_back (e2.trans eN) htl, hto, F⟩⟩⟩
end
def Req.first : Req → Str
  | .table _ => "table"
  | .word w _ => w
  | .take _ _ => "take"
theorem asked_tup {K : PySem.W.Frag} {H : Hp} {t : Addr} {own : List Addr} {r : Req} (h : Asked K H t own r) : ∃ rest, SqT K H t (.str r.first :: .str r.name :: rest) := by
  cases r with
  | table tb => exact absurd h id
  | word w n => exact ⟨[], h⟩
  | take n ns =>
    obtain ⟨a, h, _⟩ := h
    exact ⟨[.ref a], h⟩
theorem Asked.mono {K : PySem.W.Frag} {H H' : Hp} {t : Addr} {own own' : List Addr} {r : Req} (h : Asked K H t own r) (e : Ex H H') (ho : ∀ a ∈ own', a ∈ own) : Asked K H' t own' r := by
  cases r with
  | table tb => exact absurd h id
  | word w n => exact ex_t e h
  | take n ns =>
    obtain ⟨a, h1, h2, h3⟩ := h
    exact ⟨a, ex_t e h1, fun h => h2 (ho a h), ex_l e h3⟩
theorem stepD_none {tab : List Kd} {A A' : DS} {r : Req} {a : Str} {tab' : List Kd} (hT : ∀ tb, r ≠ .table tb) (hg : A.get r.name = none) (h : stepD tab A r = some (a, tab', A')) : r.first = "begin" ∧ A.length < 12 ∧ a = "ok" ∧ A' = A ++ [(r.name, ⟨[], 0, false⟩)] := by
  cases r with
  | table tb => exact absurd rfl (hT tb)
  | take n more =>
    simp only [stepD] at h
    rw [show A.get n = none from hg] at h
    cases h
  | word w n =>
    simp only [stepD] at h
    rw [show A.get n = none from hg] at h
    simp only at h
    split at h
    · rename_i hw
      obtain ⟨rfl, h2⟩ := Prod.mk.inj (Option.some.inj h)
      obtain ⟨_, rfl⟩ := Prod.mk.inj h2
      exact ⟨hw.1, hw.2, rfl, rfl⟩
    · cases h
theorem stepD_some {tab : List Kd} {A A' : DS} {r : Req} {a : Str} {s : FeedSt} {tab' : List Kd} (hT : ∀ tb, r ≠ .table tb) (hg : A.get r.name = some s) (h : stepD tab A r = some (a, tab', A')) : r.first ≠ "begin" ∧ ((r.first = "drop" ∧ a = "ok" ∧ A' = A.cut r.name) ∨ (r.first ≠ "drop" ∧ ∃ s', ansF tab s r = some (a, s') ∧ A' = A.put r.name s')) := by
  cases r with
  | table tb => exact absurd rfl (hT tb)
  | take n more =>
    simp only [stepD] at h
    rw [show A.get n = some s from hg] at h
    simp only at h
    refine ⟨by show ("take" : Str) ≠ "begin"; decide +kernel, .inr ⟨by show ("take" : Str) ≠ "drop"; decide +kernel, ?_⟩⟩
    cases ha : ansF tab s (.take n more) with
    | none => rw [ha] at h; cases h
    | some q =>
      rw [ha] at h
      obtain ⟨h1, h2⟩ := Prod.mk.inj (Option.some.inj h)
      obtain ⟨_, h3⟩ := Prod.mk.inj h2
      exact ⟨q.2, by rw [← h1], h3.symm⟩
  | word w n =>
    simp only [stepD] at h
    rw [show A.get n = some s from hg] at h
    simp only at h
    by_cases hw : w = "drop"
    · rw [if_pos hw] at h
      obtain ⟨h1, h2⟩ := Prod.mk.inj (Option.some.inj h)
      obtain ⟨_, h3⟩ := Prod.mk.inj h2
      exact ⟨by show w ≠ "begin"; rw [hw]; decide +kernel, .inl ⟨hw, h1.symm, h3.symm⟩⟩
    · rw [if_neg hw] at h
      cases ha : ansF tab s (.word w n) with
      | none => rw [ha] at h; cases h
      | some q =>
        rw [ha] at h
        obtain ⟨h1, h2⟩ := Prod.mk.inj (Option.some.inj h)
        obtain ⟨_, h3⟩ := Prod.mk.inj h2
        refine ⟨fun e => ?_, .inr ⟨hw, q.2, by rw [← h1], h3.symm⟩⟩
        have e : w = "begin" := e
        rw [ansF_word, e, if_neg (by decide +kernel), if_neg (by decide +kernel), if_neg (by decide +kernel), if_neg (by decide +kernel)] at ha
        cases ha
theorem ansF_inv {tab : List Kd} {s s' : FeedSt} {r : Req} {a : Str} (hok : r.ok) (I : FeedInv tab s) (hl : s.ns.length + r.more.length ≤ 200) (h : ansF tab s r = some (a, s')) : FeedInv tab s' := by
  cases r with
  | table tb => cases h
  | take n more =>
    rw [ansF_take] at h
    split at h
    · split at h
      · obtain ⟨_, rfl⟩ := Prod.mk.inj (Option.some.inj h)
        exact I
      · obtain ⟨_, rfl⟩ := Prod.mk.inj (Option.some.inj h)
        exact I
    · obtain ⟨_, rfl⟩ := Prod.mk.inj (Option.some.inj h)
      refine ⟨by rw [List.length_append]; exact hl, fun c hc => ?_, fun _ => rfl⟩
      rcases List.mem_append.mp hc with h1 | h1
      · exact I.2.1 c h1
      · exact (hok.2.2 c h1).1
  | word w n =>
    rw [ansF_word] at h
    split at h
    · split at h
      · cases h
      · obtain ⟨_, rfl⟩ := Prod.mk.inj (Option.some.inj h)
        exact ⟨I.1, I.2.1, fun e => nomatch e⟩
    · split at h
      · obtain ⟨_, rfl⟩ := Prod.mk.inj (Option.some.inj h)
        exact I
      · split at h
        · obtain ⟨_, rfl⟩ := Prod.mk.inj (Option.some.inj h)
          exact I
        · split at h
          · obtain ⟨_, rfl⟩ := Prod.mk.inj (Option.some.inj h)
            exact I
          · cases h
theorem DeskA.mono {K : PySem.W.Frag} {H H' : Hp} {d : Addr} {own : List Addr} {A : DS} {tab : List Kd} (h : DeskA K H d own A tab) (e : Ex H H') : DeskA K H' d own A tab := by
  obtain ⟨fd, kl, frs, h1, h2, D⟩ := h
  exact ⟨fd, kl, frs, h1, h2, D.mono e⟩
theorem DeskA.live {K : PySem.W.Frag} {H : Hp} {d : Addr} {own : List Addr} {A : DS} {tab : List Kd} (h : DeskA K H d own A tab) : ∀ a ∈ own, ∃ o, H a = some o := by
  obtain ⟨fd, kl, frs, rfl, h2, D⟩ := h
  intro a ha
  rcases mem_owns.mp ha with rfl | rfl | ⟨r, hr, rfl⟩ | ⟨r, hr, rfl⟩ | rfl | ⟨r, hr, rfl⟩
  · obtain ⟨dx, st, te, un, h, _⟩ := D.ob
    exact ⟨_, h⟩
  · exact ⟨_, D.fds⟩
  · exact ⟨_, (D.at_ r hr).ob⟩
  · exact ⟨_, (D.at_ r hr).came⟩
  · obtain ⟨dx, st, te, un, _, _, ⟨xs, h⟩, _⟩ := D.ob
    exact ⟨_, h⟩
  · obtain ⟨xs, h⟩ := D.tlo r hr
    exact ⟨_, h⟩
theorem DeskA.obj {K : PySem.W.Frag} {H : Hp} {d : Addr} {own : List Addr} {A : DS} {tab : List Kd} (h : DeskA K H d own A tab) : ∃ dx kl st fd te un, H d = some (.ins (CD K) dx (df (.ref kl) st (.ref fd) te un)) ∧ TabL K H kl tab := by
  obtain ⟨fd, kl, frs, _, _, D⟩ := h
  obtain ⟨dx, st, te, un, h, h2, _⟩ := D.ob
  exact ⟨dx, kl, st, fd, te, un, h, h2⟩
end Sv
/-! What the law draws. -/
namespace Sv
open PySem PySem.Spec PyProof.Rows L2 Evl TL
theorem cutV_map {α : Type} (xs : List α) (f : α → V) (lo hi : Option Int) : ∃ ys : List α, cutV (xs.map f) lo hi = ys.map f := by
  unfold cutV
  exact ⟨(xs.drop (HT.sIx (xs.map f).length 0 lo)).take (HT.sIx (xs.map f).length (xs.map f).length hi - HT.sIx (xs.map f).length 0 lo), by rw [List.map_take, List.map_drop]⟩
theorem cutV_nat (xs : List V) (a b : Nat) : cutV xs (some (a : Int)) (some (b : Int)) = (xs.drop a).take (b - a) := by
  unfold cutV
  rw [sIx_nat, sIx_nat]
  by_cases h : a ≤ xs.length
  · rw [Nat.min_eq_left h]
    by_cases h2 : b ≤ xs.length
    · rw [Nat.min_eq_left h2]
    · rw [Nat.min_eq_right (by omega), List.take_of_length_le (by rw [List.length_drop]; omega), List.take_of_length_le (by rw [List.length_drop]; omega)]
  · rw [Nat.min_eq_right (show xs.length ≤ a by omega), List.drop_length, List.drop_of_length_le (show xs.length ≤ a by omega), List.take_nil, List.take_nil]
theorem cutV_natM {α : Type} (xs : List α) (f : α → V) (a b : Nat) : cutV (xs.map f) (some (a : Int)) (some (b : Int)) = ((xs.drop a).take (b - a)).map f := by
  rw [cutV_nat, List.map_take, List.map_drop]
/-- a drawn list: each number less than its size -/
abbrev Drawn (sz zs : List Int) : Prop := A2 (fun z s => 0 ≤ z ∧ z < s) zs sz
theorem Drawn.at_ {sz zs : List Int} (h : Drawn sz zs) {j : Nat} {s : Int} (e : sz[j]? = some s) : ∃ z, zs[j]? = some z ∧ 0 ≤ z ∧ z < s := by
  obtain ⟨z, h1, h2⟩ := A2.get h e
  exact ⟨z, h1, h2⟩
/-- one of some numbers -/
theorem pick {xs : List Int} {Pz : Int → Prop} (h : ∀ x ∈ xs, Pz x) {z : Int} (h0 : 0 ≤ z) (h1 : z < (xs.length : Int)) : ∃ x, atI (xs.map V.int) z = some (.int x) ∧ Pz x := by
  obtain ⟨n, rfl⟩ : ∃ n : Nat, z = (n : Int) := ⟨z.toNat, by omega⟩
  have hn : n < xs.length := by omega
  refine ⟨xs[n], at_int rfl (List.getElem?_eq_getElem hn), h _ (List.getElem_mem hn)⟩
theorem log_2 {z : Int} {n : Nat} (h1 : -(2 ^ n : Int) < z) (h2 : z < (2 ^ n : Int)) (hn : 0 < n) : z.natAbs.log2 < n := by
  by_cases h0 : z.natAbs = 0
  · rw [h0]
    simpa using hn
  · rw [Nat.log2_lt h0]
    have e : ((2 ^ n : Nat) : Int) = (2 ^ n : Int) := by push_cast; rfl
    omega
theorem log_100 {z : Int} (h1 : -1000000000000000000000 ≤ z) (h2 : z ≤ 1000000000000000000000) : z.natAbs.log2 < 100 := by
  have h : z.natAbs ≤ 1000000000000000000000 := by omega
  by_cases h0 : z.natAbs = 0
  · rw [h0]
    decide
  · rw [Nat.log2_lt h0]
    exact Nat.lt_of_le_of_lt h (show 1000000000000000000000 < 2 ^ 100 by decide)
theorem cmulW {i j : Int} (h1 : -1000000000000000000000 ≤ i) (h2 : i ≤ 1000000000000000000000) (h3 : -1000000000000000000000 ≤ j) (h4 : j ≤ 1000000000000000000000) : CMulW i j := by
  have a := log_100 h1 h2
  have b := log_100 h3 h4
  unfold CMulW
  omega
theorem cmul {i j : Int} (h1 : -18446744073709551616 < i) (h2 : i < 18446744073709551616) : CMul i j := .inl ⟨h1, h2⟩
theorem cmulR {i j : Int} (h1 : -18446744073709551616 < j) (h2 : j < 18446744073709551616) : CMul i j := .inr ⟨h1, h2⟩
section
variable (K : PySem.W.Frag)
def sp_law_cell : Sp := fun vs H Q _ => ∃ (a : Addr) (p : Int) (sc : List Int), vs = [.ref a, .int p] ∧ SqL K H a (sc.map V.int) ∧ 0 ≤ p ∧ p ≤ 1000 ∧ ∀ z H2, Ex H H2 → Q (.int z) H2
def sp_law_mix (_K : PySem.W.Frag) : Sp := fun vs H Q _ => ∃ (c k : Int), vs = [.int c, .int k] ∧ 0 ≤ k ∧ k ≤ 1000 ∧ ∀ z H2, Ex H H2 → Q (.int z) H2
def sp_law_row : Sp := fun vs H Q _ => ∃ (a s : Addr) (p : Int) (sc sz : List Int), vs = [.ref a, .int p, .ref s] ∧ SqL K H a (sc.map V.int) ∧ SqL K H s (sz.map V.int) ∧ 0 ≤ p ∧ p ≤ 100 ∧ sz.length ≤ 100 ∧ (∀ x ∈ sz, 0 < x ∧ x < 1000000000) ∧
  RetG (fun H v H2 => ∃ zs, NewL (zs.map V.int) H v H2 ∧ Drawn sz zs) H Q
def sp_law_table : Sp := fun vs H Q _ => ∃ (a : Addr) (sc : List Int), vs = [.ref a, .int 0, .int 5] ∧ SqL K H a (sc.map V.int) ∧ RetG (fun H v H2 => ∃ tab, NewR K (tab.map kindV) H v H2 ∧ tabOk tab) H Q
def sp_law_flaw : Sp := fun vs H Q _ => ∃ (a : Addr) (sc : List Int), vs = [.ref a, .int 0, .int 5] ∧ SqL K H a (sc.map V.int) ∧ ∀ f H2, 1 ≤ f → f ≤ 100000000000000000 → Ex H H2 → Q (.int f) H2
def sp_law_roll : Sp := fun vs H Q _ => ∃ (a : Addr) (p f : Int) (sc : List Int), vs = [.ref a, .int p, .int 20, .int f] ∧ SqL K H a (sc.map V.int) ∧ 0 ≤ p ∧ p ≤ 100 ∧ 1 ≤ f ∧ f ≤ 100000000000000000 ∧ RetG (fun H v H2 => ∃ ns, NewL (ns.map V.int) H v H2 ∧ cellsOk ns ∧ ns.length ≤ 20) H Q
def sp_law_drawn : Sp := fun vs H Q _ => ∃ (a : Addr) (sc : List Int), vs = [.ref a, .int 0, .int 20, .int 5] ∧ SqL K H a (sc.map V.int) ∧
  ∀ t rl tb ns tab H2, Ex H H2 → H2 t = some (.tup [.ref rl, .ref tb]) → H rl = none → H2 rl = some (.lst (ns.map V.int)) → cellsOk ns → ns.length ≤ 20 → H tb = none → RowsN K H2 tb (tab.map kindV) → tabOk tab → Q (.ref t) H2
end
section
variable {K : PySem.W.Frag} {σ : L2.St} {H H' : Hp} {ta tb te tx to : TE} {D : Ends} {tu tw tz : TS} {P : Hp → V → Hp → Prop}
/-- a call whose promise leaves the number open -/
theorem eg_callZ {sp : Sp} {dvs vs : List V} {E : XK} {ta : TA} {Pz : Int → Prop} (h : EvA ta σ H vs) (hs : ∀ H1, Ex H H1 → ∀ Q : VK, (∀ z H2, Pz z → Ex H1 H2 → Q (.int z) H2) → ∀ E : XK, sp (vs ++ dvs) H1 Q E) : EvG (tCall sp dvs E ta) σ H (fun _ v _ => ∃ z, v = .int z ∧ Pz z) := fun H1 e Q q =>
  h H1 e _ fun H2 e2 => hs H2 (e.trans e2) Q (fun z H3 hz e3 => q _ H3 (e2.trans e3) ⟨z, rfl, hz⟩) E
/-- an open number -/
theorem eg_opZ {r : R2} {y : V} {Pz Pw : Int → Prop} (ha : EvG ta σ H (fun _ v _ => ∃ z, v = .int z ∧ Pz z)) (hb : Ev tb σ H y) (hr : ∀ z H1, Pz z → Ex H H1 → ∃ w, Pw w ∧ RV r (.int z) y H1 (.int w)) : EvG (tOp r ta tb) σ H (fun _ v _ => ∃ z, v = .int z ∧ Pw z) := fun H1 e Q q =>
  ha H1 e _ fun v H2 e2 p => hb H2 (e.trans e2) _ fun H3 e3 => by
    obtain ⟨z, rfl, hz⟩ := p
    obtain ⟨w, hw, h⟩ := hr z H3 hz ((e.trans e2).trans e3)
    exact h H3 (Ex.refl _) Q fun H4 e4 => q _ H4 ((e2.trans e3).trans e4) ⟨w, rfl, hw⟩
end
end Sv
/-! Words for the drawn data; the pool of names. -/
namespace Sv
open PySem PySem.Spec PyProof.Rows L2 Evl TL
section
variable {K : PySem.W.Frag} {σ : L2.St} {H H' : Hp} {ta tb tc te tx to : TE} {D : Ends} {tu tw tz : TS} {P : Hp → V → Hp → Prop} {x y v : V}
theorem eg_call3L {sp : Sp} {dvs xs : List V} {E : XK} (ha : Ev ta σ H x) (hb : Ev tb σ H y) (hc : EvL tc σ H xs) (hs : ∀ p H1, Ex H H1 → H1 p = some (.lst xs) → SpG sp ([x, y, .ref p] ++ dvs) H1 P) (hP : ∀ H1 H2 v H3, Ex H1 H2 → P H2 v H3 → P H1 v H3) : EvG (tCall sp dvs E (tCons ta (tCons tb (tCons tc tNil)))) σ H P := fun H1 e Q q =>
  ha H1 e _ fun H2 e2 => hb H2 (e.trans e2) _ fun H3 e3 => hc H3 ((e.trans e2).trans e3) _ fun p H4 hp e4 h4 => hs p H4 (((e.trans e2).trans e3).trans e4) h4 H4 (Ex.refl _) Q (fun w H5 e5 pw => q w H5 (((e2.trans e3).trans e4).trans e5) (hP _ _ _ _ ((e2.trans e3).trans e4) pw)) E
theorem el_repN {xs : List V} {k : Int} (ha : EvL ta σ H xs) (hb : Ev tb σ H (.int k)) (h0 : 0 ≤ k ∧ k ≤ 1000) (hl : xs.length ≤ 100) : EvL (tOp rRep ta tb) σ H (List.replicate k.toNat xs).flatten := fun H1 e Q q =>
  ha H1 e _ fun p H2 _ e2 h2 => hb H2 (e.trans e2) _ fun H3 e3 => ⟨p, k, xs, rfl, rfl, e3 _ _ h2, by omega, by omega, sz_of (Nat.le_trans (Nat.mul_le_mul hl (show k.toNat ≤ 1000 by omega)) (by decide)), fun l hl => q l _ (fresh_back (e2.trans e3) hl) ((e2.trans e3).trans (Ex.new hl)) upd_same⟩
theorem el_catNN {xs ys : List V} (ha : EvL ta σ H xs) (hb : EvL tb σ H ys) (hz : xs.length + ys.length ≤ 100000) : EvL (tOp rCat ta tb) σ H (xs ++ ys) := fun H1 e Q k =>
  ha H1 e _ fun p H2 _ e2 hp => hb H2 (e.trans e2) _ fun q H3 _ e3 hq => ⟨p, q, xs, ys, rfl, rfl, e3 _ _ hp, hq, sz_of hz, fun l hl => k l _ (fresh_back (e2.trans e3) hl) ((e2.trans e3).trans (Ex.new hl)) upd_same⟩
/-- [..][z] -/
theorem ev_pick {xs : List Int} {z w : Int} (ha : EvL ta σ H (xs.map V.int)) (hb : Ev tb σ H (.int z)) (hx : atI (xs.map V.int) z = some (.int w)) : Ev (tOp (rIxL K) ta tb) σ H (.int w) :=
  ev_opL1 ha (fun H1 e => hb.mono e) fun p H1 hp e => rv_ixL (sq_of hp) hx
end
def poolL : List Str := ["a", "ab", "abc", "b", "ba", "z", "zzzzzzzz", "roll", "cut", "by", "aab", "zz", "kind", "qsvw", "fghjmp", "x"]
theorem pool_ok : ∀ s ∈ poolL, 1 ≤ (tl s).length ∧ (tl s).length ≤ 8 ∧ ∀ c ∈ tl s, 97 ≤ c ∧ c ≤ 122 := by decide +kernel
theorem pool_nd : poolL.Nodup := by decide +kernel
def poolIx (a b k : Int) : Nat := ((a + (2 * b + 1) * k) % 16).toNat
theorem poolIx_lt (a b k : Int) : poolIx a b k < 16 := by
  unfold poolIx
  omega
theorem poolIx_inj {a b : Int} (hb : 0 ≤ b ∧ b < 4) {i j : Nat} (hi : i < 8) (hj : j < 8) (h : poolIx a b (i : Int) = poolIx a b (j : Int)) : i = j := by
  unfold poolIx at h
  have hb' : b = 0 ∨ b = 1 ∨ b = 2 ∨ b = 3 := by omega
  rcases hb' with rfl | rfl | rfl | rfl <;> omega
def nameAt (a b : Int) (k : Nat) : Str := poolL.getD (poolIx a b (k : Int)) Str.empty
theorem nameAt_get (a b : Int) (k : Nat) : poolL[poolIx a b (k : Int)]? = some (nameAt a b k) := by
  have h : poolIx a b (k : Int) < poolL.length := poolIx_lt a b k
  unfold nameAt
  rw [List.getD_eq_getElem?_getD, List.getElem?_eq_getElem h]
  rfl
theorem nameAt_ok (a b : Int) (k : Nat) : nameOk (nameAt a b k) := pool_ok _ (List.mem_of_getElem? (nameAt_get a b k))
theorem nameAt_inj {a b : Int} (hb : 0 ≤ b ∧ b < 4) {i j : Nat} (hi : i < 8) (hj : j < 8) (h : nameAt a b i = nameAt a b j) : i = j := by
  refine poolIx_inj (a := a) hb hi hj ?_
  have h1 := nameAt_get a b i
  have h2 := nameAt_get a b j
  rw [h] at h1
  exact (List.getElem?_inj (poolIx_lt _ _ _) pool_nd).mp (h1.trans h2.symm)
theorem names_nd {a b : Int} (hb : 0 ≤ b ∧ b < 4) : ∀ {n : Nat}, n ≤ 8 → ((List.range n).map (nameAt a b)).Nodup
  | 0, _ => by simp
  | n + 1, h => by
    rw [List.range_succ]
    refine nodup_snoc (names_nd hb (by omega)) fun y hy e => ?_
    have hy := List.mem_range.mp hy
    have := nameAt_inj hb (by omega) (by omega) e
    omega
def tabSz : List Int := [6, 4, 4, 4, 16, 4, 11, 40, 6, 11, 40, 6, 11, 40, 6, 11, 40, 6, 11, 40, 6]
theorem tabSz_k : ∀ k < 5, tabSz[3 * k + 6]? = some 11 ∧ tabSz[3 * k + 7]? = some 40 ∧ tabSz[3 * k + 8]? = some 6 := by decide
def rollSz : List Int := [21, 4, 3] ++ (List.replicate 20 [8, 5]).flatten
theorem rollSz_k : ∀ k < 20, rollSz[2 * k + 3]? = some 8 ∧ rollSz[2 * k + 4]? = some 5 := by decide
end Sv
/-! The law speaks with the desk. -/
namespace Sv
open PySem PySem.Spec PyProof.Rows L2 Evl TL
/-! ### the lines -/
theorem line_word {pre w n : Str} (h : tl pre = tl w ++ [32]) : lineIs (pre ++ n) (.word w n) := by
  show tl (pre ++ n) = tl w ++ ([32] ++ tl n)
  rw [tl_append, h, List.append_assoc]
theorem joinL_cons (S a : List Nat) {r : List (List Nat)} (h : r ≠ []) : joinL S (a :: r) = a ++ (S ++ joinL S r) := by
  cases r with
  | nil => exact absurd rfl h
  | cons b r => rfl
theorem numWs_ne (ns : List Int) : (numWs ns).map tl ≠ [] := by
  unfold numWs
  split
  · simp
  · rename_i h
    simp [h]
theorem line_take {pre n rest : Str} {ns : List Int} (h : tl pre = tl ("take" : Str) ++ [32]) (h2 : tl rest = [32] ++ tl (numsLine ns)) : lineIs (pre ++ n ++ rest) (.take n ns) := by
  show tl (pre ++ n ++ rest) = joinL [32] (tl ("take" : Str) :: tl n :: (numWs ns).map tl)
  rw [joinL_cons _ _ (by simp), joinL_cons _ _ (numWs_ne ns), tl_append, tl_append, h, h2, numsLine_eq, join_tl, tl_blank]
  simp [List.append_assoc]
theorem line_table {pre : Str} {tab : List Kd} (h : tl pre = tl ("table" : Str) ++ [32]) : lineIs (pre ++ tabLine tab) (.table tab) := by
  show tl (pre ++ tabLine tab) = joinL [32] (tl ("table" : Str) :: (tabWs tab).map tl)
  rw [joinL_cons _ _ (fun h => tabWs_ne tab (List.map_eq_nil_iff.mp h)), tabWs_tl, tl_append, h, List.append_assoc]
theorem strOk_cut {ps : List (Nat × Str)} (h : pieOk ps) : PyData.strOk (cutLine ps) = true := by
  refine strOk_of fun c hc => ?_
  unfold cutLine at hc
  split at hc
  · rw [tl_dash] at hc
    have := List.mem_singleton.mp hc
    omega
  · rw [join_tl, tl_blank] at hc
    rcases mem_joinL hc with hc | ⟨w, hw, hc⟩
    · have := List.mem_singleton.mp hc
      omega
    · obtain ⟨s, hs, rfl⟩ := List.mem_map.mp hw
      obtain ⟨p, hp, rfl⟩ := List.mem_map.mp hs
      rw [pieW_tl] at hc
      rcases List.mem_append.mp hc with hc | hc
      · have := numL_mem hc
        omega
      · rcases List.mem_cons.mp hc with hc | hc
        · omega
        · have := ((h.2 p hp).2.2.2 c hc).2
          omega
theorem strOk_num (n : Nat) : PyData.strOk (numS (n : Int)) = true := by
  refine strOk_of fun c hc => ?_
  rw [tl_numS] at hc
  have := numL_mem hc
  omega
theorem tabOk.named {tab : List Kd} (h : tabOk tab) : Named tab := fun k hk => (h.ks k hk).name
theorem tabOk.ne {tab : List Kd} (h : tabOk tab) : ∀ k ∈ tab, k.name ≠ Str.empty := fun k hk => (h.ks k hk).name.ne
theorem tabOk.len' {tab : List Kd} (h : tabOk tab) : tab.length ≤ 100 := by
  have := h.len
  omega
/-! ### what passes between two lines -/
def Pass (own own' : List Addr) (H H' : Hp) : Prop := Frm own H H' ∧ Grow own own' H
theorem Pass.ex {own : List Addr} {H H' : Hp} (e : Ex H H') : Pass own own H H' := ⟨fun a o h _ => e a o h, fun a h => .inl h⟩
theorem Pass.out {own own' : List Addr} {H H' : Hp} (p : Pass own own' H H') {a : Addr} {o : HO} (h : H a = some o) (n : a ∉ own) : a ∉ own' := fun m => by
  rcases p.2 a m with h1 | h1
  · exact n h1
  · rw [h] at h1
    cases h1
theorem Pass.trans {o1 o2 o3 : List Addr} {H1 H2 H3 : Hp} (p : Pass o1 o2 H1 H2) (q : Pass o2 o3 H2 H3) : Pass o1 o3 H1 H3 := by
  refine ⟨fun a o h n => q.1 a o (p.1 a o h n) (p.out h n), fun a m => ?_⟩
  rcases q.2 a m with h | h
  · exact p.2 a h
  · cases h1 : H1 a with
    | none => exact .inr rfl
    | some o =>
      by_cases n : a ∈ o1
      · exact .inl n
      · rw [p.1 a o h1 n] at h
        cases h
section
variable {K : PySem.W.Frag} {H H' : Hp} {d a : Addr} {own own' : List Addr} {A A' : DS} {tab : List Kd}
theorem DeskA.tup (D : DeskA K H d own A tab) (f : Frm own H H') {xs : List V} (h : SqT K H a xs) : SqT K H' a xs := by
  obtain ⟨fd, kl, frs, rfl, h2, D⟩ := D
  have nt : ∀ {o : HO}, H a = some o → (∀ C dx fs, o ≠ .ins C dx fs) → (∀ kvs, o ≠ .dK kvs) → (∀ ys, o ≠ .lst ys) → a ∉ owns d fd kl frs := fun ho n1 n2 n3 m => by
    rcases mem_owns.mp m with rfl | rfl | ⟨r, hr, rfl⟩ | ⟨r, hr, rfl⟩ | rfl | ⟨r, hr, rfl⟩
    · obtain ⟨dx, st, te, un, h, _⟩ := D.ob
      rw [h] at ho
      exact n1 _ _ _ (Option.some.inj ho).symm
    · rw [D.fds] at ho
      exact n2 _ (Option.some.inj ho).symm
    · rw [(D.at_ r hr).ob] at ho
      exact n1 _ _ _ (Option.some.inj ho).symm
    · rw [(D.at_ r hr).came] at ho
      exact n3 _ (Option.some.inj ho).symm
    · obtain ⟨dx, st, te, un, _, _, ⟨xs, h⟩, _⟩ := D.ob
      rw [h] at ho
      exact n3 _ (Option.some.inj ho).symm
    · obtain ⟨xs, h⟩ := D.tlo r hr
      rw [h] at ho
      exact n3 _ (Option.some.inj ho).symm
  rcases h with (h | ⟨o, h⟩) | h
  · exact .inl (.inl (f _ _ h (nt h (fun _ _ _ z => nomatch z) (fun _ z => nomatch z) (fun _ z => nomatch z))))
  · exact .inl (.inr ⟨o, f _ _ h (nt h (fun _ _ _ z => nomatch z) (fun _ z => nomatch z) (fun _ z => nomatch z))⟩)
  · exact .inr h
theorem DeskA.rows (D : DeskA K H d own A tab) (f : Frm own H H') {rows : List (List V)} (h : RowsN K H a rows) (n : a ∉ own) : RowsN K H' a rows := by
  obtain ⟨ts, h1, h2⟩ := h
  exact ⟨ts, f _ _ h1 n, h2.mono fun _ _ q => D.tup f q⟩
theorem DeskA.fresh (D : DeskA K H d own A tab) (h : H a = none) : a ∉ own := fun m => by
  obtain ⟨o, ho⟩ := D.live a m
  rw [h] at ho
  cases ho
theorem DeskA.inv (D : DeskA K H d own A tab) {n : Str} {s : FeedSt} (h : A.get n = some s) : FeedInv tab s := by
  obtain ⟨fd, kl, frs, _, rfl, D⟩ := D
  rw [get_find] at h
  cases hf : frs.find? (fun q => decide (q.name = n)) with
  | none => rw [hf] at h; cases h
  | some r =>
    rw [hf] at h
    have e : r.s = s := Option.some.inj h
    rw [← e]
    exact D.inv r (find_some hf).1
theorem DeskA.put_same (D : DeskA K H d own A tab) {n : Str} {s : FeedSt} (h : A.get n = some s) : A.put n s = A := by
  obtain ⟨fd, kl, frs, _, rfl, D⟩ := D
  rw [get_find] at h
  cases hf : frs.find? (fun q => decide (q.name = n)) with
  | none => rw [hf] at h; cases h
  | some r =>
    rw [hf] at h
    obtain ⟨hr, hn⟩ := find_some hf
    have e : r.s = s := Option.some.inj h
    rw [← put_abs]
    have : frs.map (upF n s) = frs.map id := List.map_congr_left fun q hq => by
      unfold upF
      split
      · rename_i hq2
        have e2 := nodup_inj D.nd hq hr (hq2.trans hn.symm)
        rw [e2, ← e]
        rfl
      · rfl
    rw [this, List.map_id]
end
theorem get_put (A : DS) (n m : Str) (s : FeedSt) : (A.put n s).get m = if m = n then (A.get n).map (fun _ => s) else A.get m := by
  induction A with
  | nil => by_cases h : m = n <;> simp [DS.put, DS.get, h]
  | cons q A ih =>
    unfold DS.put DS.get at ih ⊢
    rw [List.map_cons, List.find?_cons, List.find?_cons, List.find?_cons]
    by_cases h : m = n
    · subst h
      rw [if_pos rfl] at ih ⊢
      by_cases hq : q.1 = m
      · simp [hq]
      · simp only [if_neg hq, decide_eq_false hq]
        exact ih
    · rw [if_neg h] at ih ⊢
      by_cases hq : q.1 = n
      · have hm : ¬ n = m := fun e => h e.symm
        have hm2 : ¬ q.1 = m := fun e => h (by rw [← e, hq])
        simp only [if_pos hq, decide_eq_false hm2]
        exact ih
      · by_cases hm : q.1 = m
        · simp only [if_neg hq, decide_eq_true hm]
        · simp only [if_neg hq, decide_eq_false hm]
          exact ih
theorem len_put (A : DS) (n : Str) (s : FeedSt) : (A.put n s).length = A.length := by
  unfold DS.put
  rw [List.length_map]
theorem get_cut (A : DS) (n m : Str) : (A.cut n).get m = if m = n then none else A.get m := by
  induction A with
  | nil => by_cases h : m = n <;> simp [DS.cut, DS.get]
  | cons q A ih =>
    unfold DS.cut DS.get at ih ⊢
    rw [List.filter_cons, List.find?_cons]
    by_cases hq : q.1 = n
    · rw [if_neg (by simp [hq])]
      by_cases h : m = n
      · rw [if_pos h] at ih ⊢
        exact ih
      · rw [if_neg h] at ih ⊢
        have hm : ¬ q.1 = m := fun e => h (by rw [← e, hq])
        rw [decide_eq_false hm]
        exact ih
    · rw [if_pos (by simp [hq]), List.find?_cons]
      by_cases h : m = n
      · rw [if_pos h] at ih ⊢
        have hm : ¬ q.1 = m := fun e => hq (by rw [e, h])
        rw [decide_eq_false hm]
        exact ih
      · rw [if_neg h] at ih ⊢
        by_cases hm : q.1 = m
        · rw [decide_eq_true hm]
        · rw [decide_eq_false hm]
          exact ih
theorem len_cut {A : DS} {n : Str} {s : FeedSt} (h : A.get n = some s) : (A.cut n).length < A.length := by
  unfold DS.cut
  unfold DS.get at h
  refine List.length_filter_lt_length_iff_exists.mpr ?_
  cases hf : A.find? (fun q => decide (q.1 = n)) with
  | none => rw [hf] at h; cases h
  | some q =>
    refine ⟨q, List.mem_of_find?_eq_some hf, ?_⟩
    have h1 := List.find?_some hf
    simp at h1
    simp [h1]
theorem put_cut (A : DS) (n : Str) (s : FeedSt) : (A.put n s).cut n = A.cut n := by
  unfold DS.put DS.cut
  induction A with
  | nil => rfl
  | cons q A ih =>
    rw [List.map_cons, List.filter_cons, List.filter_cons, ih]
    by_cases hq : q.1 = n
    · simp [hq]
    · simp [hq]
theorem get_add (A : DS) (n m : Str) (s : FeedSt) : DS.get (A ++ [(n, s)]) m = (A.get m).or (if n = m then some s else none) := by
  unfold DS.get
  rw [List.find?_append, List.find?_cons]
  cases A.find? (fun q => decide (q.1 = m)) with
  | some q => rfl
  | none =>
    by_cases h : n = m
    · simp [h]
    · simp [h]
theorem get_put_same {A : DS} {n : Str} {s s' : FeedSt} (h : A.get n = some s) : (A.put n s').get n = some s' := by
  rw [get_put, if_pos rfl, h]
  rfl
/-! ### answers -/
section
variable {tab : List Kd} {A : DS} {s s' : FeedSt} {w n a : Str} {more : List Int}
theorem stepD_word (hg : A.get n = some s) (hw : w ≠ "drop") (ha : ansF tab s (.word w n) = some (a, s')) : stepD tab A (.word w n) = some (a, tab, A.put n s') := by
  simp only [stepD, hg, if_neg hw, ha]
  rfl
theorem stepD_take (hg : A.get n = some s) (ha : ansF tab s (.take n more) = some (a, s')) : stepD tab A (.take n more) = some (a, tab, A.put n s') := by
  simp only [stepD, hg, ha]
  rfl
theorem stepD_drop (hg : A.get n = some s) : stepD tab A (.word "drop" n) = some (("ok" : Str), tab, A.cut n) := by
  simp only [stepD, hg, if_pos]
theorem stepD_begin (hg : A.get n = none) (hl : A.length < 12) : stepD tab A (.word "begin" n) = some (("ok" : Str), tab, A ++ [(n, ⟨[], 0, false⟩)]) := by
  simp only [stepD, hg, true_and, if_pos hl]
theorem ans_settled : ansF tab s (.word "settled" n) = some (numS ((stl tab s : Nat) : Int), s) := by
  rw [ansF_word, if_neg (by decide +kernel), if_neg (by decide +kernel), if_pos rfl]
theorem ans_sure : ansF tab s (.word "sure" n) = some (cutLine (sureF tab s), s) := by
  rw [ansF_word, if_neg (by decide +kernel), if_pos rfl]
theorem ans_told : ansF tab s (.word "told" n) = some (cutLine (told s.ns tab), s) := by
  rw [ansF_word, if_neg (by decide +kernel), if_neg (by decide +kernel), if_neg (by decide +kernel), if_pos rfl]
theorem ans_close (h : s.ended = false) : ansF tab s (.word "close" n) = some (cutLine ((told s.ns tab).drop s.known), ⟨s.ns, (told s.ns tab).length, true⟩) := by
  rw [ansF_word, if_pos rfl, if_neg (by rw [h]; decide)]
theorem ans_take (h : s.ended = false) : ansF tab s (.take n more) = some (cutLine (newlies tab s.ns more), ⟨s.ns ++ more, (sure (s.ns ++ more) tab).length, false⟩) := by
  rw [ansF_take, if_neg (by rw [h]; decide)]
end
/-! ### the promises -/
section
variable (K : PySem.W.Frag)
def sp_law_said : Sp := fun vs H Q _ => ∃ (d u : Addr) (line : Str) (own : List Addr) (A : DS) (tab : List Kd) (r : Req) (a : Str) (tab' : List Kd) (A' : DS), vs = [.ref d, .str line, .ref u] ∧ lineIs line r ∧ r.ok ∧ DeskA K H d own A tab ∧ H u = some (.lst [.str a]) ∧ u ∉ own ∧ PyData.strOk a = true ∧ tab.length ≤ 100 ∧ Wide tab ∧ Named tab ∧
  (∀ s, A.get r.name = some s → s.ns.length + r.more.length ≤ 200) ∧ stepD tab A r = some (a, tab', A') ∧ ∀ own' H', DeskA K H' d own' A' tab' → Pass own own' H H' → Q (.bl true) H'
def sp_law_asked : Sp := fun vs H Q _ => ∃ (d ro tb : Addr) (n : Str) (own : List Addr) (A : DS) (tab : List Kd) (s : FeedSt), vs = [.ref d, .str n, .ref ro, .ref tb] ∧ DeskA K H d own A tab ∧ tabOk tab ∧ nameOk n ∧ A.get n = some s ∧ s.ended = false ∧ H ro = some (.lst (s.ns.map V.int)) ∧ ro ∉ own ∧ RowsN K H tb (tab.map kindV) ∧ tb ∉ own ∧
  ∀ own' H', DeskA K H' d own' A tab → Pass own own' H H' → Q (.bl true) H'
def sp_law_take : Sp := fun vs H Q _ => ∃ (d ro mo tb : Addr) (n : Str) (own : List Addr) (A : DS) (tab : List Kd) (s : FeedSt) (more : List Int), vs = [.ref d, .str n, .ref ro, .ref mo, .ref tb] ∧ DeskA K H d own A tab ∧ tabOk tab ∧ nameOk n ∧ A.get n = some s ∧ s.ended = false ∧ H ro = some (.lst (s.ns.map V.int)) ∧ ro ∉ own ∧ H mo = some (.lst (more.map V.int)) ∧ mo ∉ own ∧ RowsN K H tb (tab.map kindV) ∧ tb ∉ own ∧
  cellsOk more ∧ s.ns.length + more.length ≤ 200 ∧ ∀ own' H', DeskA K H' d own' (A.put n ⟨s.ns ++ more, (sure (s.ns ++ more) tab).length, false⟩) tab → Pass own own' H H' → Q (.bl true) H'
def sp_law_closed : Sp := fun vs H Q _ => ∃ (d ro tb : Addr) (n : Str) (own : List Addr) (A : DS) (tab : List Kd) (s : FeedSt), vs = [.ref d, .str n, .ref ro, .ref tb] ∧ DeskA K H d own A tab ∧ tabOk tab ∧ nameOk n ∧ A.get n = some s ∧ s.ended = false ∧ H ro = some (.lst (s.ns.map V.int)) ∧ ro ∉ own ∧ RowsN K H tb (tab.map kindV) ∧ tb ∉ own ∧ A.length ≤ 12 ∧ s.ns.length + 2 ≤ 200 ∧
  ∀ own' H', DeskA K H' d own' (A.cut n ++ [(n, ⟨[], 0, false⟩)]) tab → Pass own own' H H' → Q (.bl true) H'
def sp_law : Sp := fun vs H Q _ => ∃ (a : Addr) (sc : List Int), vs = [.ref a] ∧ SqL K H a (sc.map V.int) ∧ ∀ H', Q (.bl true) H'
end
/-! ### words -/
section
variable {K : PySem.W.Frag} {σ : L2.St} {H H' : Hp} {ta tb tc te tx to : TE} {D : Ends} {tu tw tz : TS} {tlo thi : TO} {P P' : Hp → V → Hp → Prop} {x y v : V}
theorem q_asgRaw {i : Nat} (h : te σ H fun v H1 => tz D (σ.set i (some v)) H1) : tSeq (tAsg te (gName i)) tz D σ H := h
theorem ev_isiL {a : Addr} {xs : List V} (ha : Ev ta σ H (.ref a)) (h : H a = some (.lst xs)) : Ev (tCB (rIsi K) (tCons ta (tCons (tC (.ty "list")) tNil))) σ H (.bl true) := fun H1 e Q q =>
  ha H1 e _ fun H2 e2 => ⟨.ref a, .ty "list", .type "list", .type "list", true, rfl, .ty "list", .base (.lst ((e.trans e2) _ _ h)), kit_ty (by decide +kernel), q H2 e2⟩
/-- one line said -/
theorem t_said {d : Addr} {line : Str} {own : List Addr} {A A' : DS} {tab tab' : List Kd} {r : Req} {a : Str} {E : XK} {Q : VK} (ha : Ev ta σ H (.ref d)) (hb : Ev tb σ H (.str line)) (hc : EvL tc σ H [.str a]) (hl : lineIs line r) (hr : r.ok) (D : DeskA K H d own A tab) (ho : PyData.strOk a = true) (hT : tabOk tab)
    (hs : ∀ s, A.get r.name = some s → s.ns.length + r.more.length ≤ 200) (hst : stepD tab A r = some (a, tab', A')) (k : ∀ own' H', DeskA K H' d own' A' tab' → Pass own own' H H' → Q (.bl true) H') : tCall (sp_law_said K) [] E (tCons ta (tCons tb (tCons tc tNil))) σ H Q :=
  ha H (Ex.refl _) _ fun H1 e1 => hb H1 e1 _ fun H2 e2 => hc H2 (e1.trans e2) _ fun u H3 hu e3 h3 =>
    have e13 := (e1.trans e2).trans e3
    ⟨d, u, line, own, A, tab, r, a, tab', A', rfl, hl, hr, D.mono e13, h3, (D.mono (e1.trans e2)).fresh hu, ho, hT.len', hT.wide, hT.named, hs, hst, fun own' H' D' p => k own' H' D' ((Pass.ex e13).trans p)⟩
theorem q_notRaw {E : XK} {sp : Sp} {t : TA} (h : tCall sp [] E t σ H fun v H1 => ∃ b, v = .bl b ∧ b = true ∧ tz D σ H1) (hm : ∀ Q Q' : VK, (∀ v H1, Q v H1 → Q' v H1) → tCall sp [] E t σ H Q → tCall sp [] E t σ H Q') : tSeq (tIfS (tNot (tTest (tCall sp [] E t))) tu tNext) tz D σ H := hm _ _ (fun v H1 q => by
  obtain ⟨b, rfl, rfl, q⟩ := q
  exact ⟨true, rfl, q⟩) h
theorem q_said {d : Addr} {line : Str} {own : List Addr} {A A' : DS} {tab tab' : List Kd} {r : Req} {a : Str} {E : XK} (ha : Ev ta σ H (.ref d)) (hb : Ev tb σ H (.str line)) (hc : EvL tc σ H [.str a]) (hl : lineIs line r) (hr : r.ok) (D0 : DeskA K H d own A tab) (ho : PyData.strOk a = true) (hT : tabOk tab)
    (hs : ∀ s, A.get r.name = some s → s.ns.length + r.more.length ≤ 200) (hst : stepD tab A r = some (a, tab', A')) (k : ∀ own' H', DeskA K H' d own' A' tab' → Pass own own' H H' → tz D σ H') : tSeq (tIfS (tNot (tTest (tCall (sp_law_said K) [] E (tCons ta (tCons tb (tCons tc tNil)))))) tu tNext) tz D σ H :=
  t_said ha hb hc hl hr D0 ho hT hs hst fun own' H' D' p => ⟨true, rfl, k own' H' D' p⟩
theorem eg_callG1a {sp : Sp} {dvs : List V} {E : XK} (ha : EvG ta σ H P) (hb : Ev tb σ H y) (hs : ∀ H1 v H2, Ex H H1 → P H1 v H2 → Ex H1 H2 → SpG sp ([v, y] ++ dvs) H2 P') (hP : ∀ H1 H2 v H3, Ex H1 H2 → P' H2 v H3 → P' H1 v H3) : EvG (tCall sp dvs E (tCons ta (tCons tb tNil))) σ H P' := fun H1 e Q q =>
  ha H1 e _ fun v H2 e2 p => hb H2 (e.trans e2) _ fun H3 e3 => hs H1 v H2 e p e2 H3 e3 Q (fun w H4 e4 pw => q w H4 ((e2.trans e3).trans e4) (hP _ _ _ _ (e2.trans e3) pw)) E
theorem eg_callL2 {sp : Sp} {dvs xs : List V} {E : XK} (ha : EvL ta σ H xs) (hb : Ev tb σ H y) (hs : ∀ p H1, Ex H H1 → H1 p = some (.lst xs) → SpG sp ([.ref p, y] ++ dvs) H1 P') (hP : ∀ H1 H2 v H3, Ex H1 H2 → P' H2 v H3 → P' H1 v H3) : EvG (tCall sp dvs E (tCons ta (tCons tb tNil))) σ H P' := fun H1 e Q q =>
  ha H1 e _ fun p H2 _ e2 hp => hb H2 (e.trans e2) _ fun H3 e3 => hs p H3 ((e.trans e2).trans e3) (e3 _ _ hp) H3 (Ex.refl _) Q (fun w H4 e4 pw => q w H4 ((e2.trans e3).trans e4) (hP _ _ _ _ (e2.trans e3) pw)) E
theorem ev_lenG {rows : List (List V)} (h : EvG te σ H (NewR K rows)) : Ev (tCB (rLenS K) (tCons te tNil)) σ H (.int (rows.length : Int)) := fun H1 e Q q =>
  h H1 e _ fun v H2 e2 p => by
    obtain ⟨l, rfl, _, ts, h1, h2⟩ := p
    refine ⟨l, _, rfl, .inl (sq_of h1), ?_⟩
    rw [List.length_map, h2.length]
    exact q H2 e2
theorem eg_dropG {rows : List (List V)} {n : Nat} (h : EvG te σ H (NewR K rows)) (h1 : EvO tlo σ H (some (n : Int))) (h2 : EvO thi σ H none) : EvG (tSl (rSlL K) te tlo thi) σ H (NewR K (rows.drop n)) := fun H1 e Q q =>
  h H1 e _ fun v H2 e2 p => h1 H2 (e.trans e2) _ fun H3 e3 => h2 H3 ((e.trans e2).trans e3) _ fun H4 e4 => by
    obtain ⟨l, rfl, hl, ts, g1, g2⟩ := p
    refine ⟨l, _, rfl, sq_of ((e3.trans e4) _ _ g1), fun p hp => q _ _ (((e2.trans e3).trans e4).trans (Ex.new hp)) ⟨p, rfl, fresh_back ((e2.trans e3).trans e4) hp, ts.drop n, ?_, (g2.mono fun _ _ z => ex_t ((e3.trans e4).trans (Ex.new hp)) z).drop n⟩⟩
    rw [upd_same, cutV_drop, List.map_drop]
/-- law_sure(..)[1] -/
theorem eg_sure1 {ns : List Int} {tab : List Kd} (h : EvG te σ H (fun H v H2 => ∃ t c, v = .ref t ∧ H c = none ∧ H2 t = some (.tup [.int ((settled ns tab : Nat) : Int), .ref c]) ∧ PieN K H2 c (sure ns tab))) : EvG (tOp (rIxT K) te (tC (.int 1))) σ H (NewR K ((sure ns tab).map pieV)) :=
  eg_opG h ev_c fun H1 v H2 e1 e2 p H3 e3 Q k => by
    obtain ⟨t, c, rfl, hc, ht, hR⟩ := p
    exact rv_ixT (K := K) (st_of ht) (v := .ref c) rfl H3 e3 Q fun H4 e4 => k _ H4 e4 ⟨c, rfl, hc, hR.mono (e3.trans e4)⟩
theorem sure_back {ns : List Int} {tab : List Kd} (H1 H2 : Hp) (v : V) (H3 : Hp) (e : Ex H1 H2) (p : ∃ t c, v = .ref t ∧ H2 c = none ∧ H3 t = some (.tup [.int ((settled ns tab : Nat) : Int), .ref c]) ∧ PieN K H3 c (sure ns tab)) : ∃ t c, v = .ref t ∧ H1 c = none ∧ H3 t = some (.tup [.int ((settled ns tab : Nat) : Int), .ref c]) ∧ PieN K H3 c (sure ns tab) := by
  obtain ⟨t, c, h1, h2, h3⟩ := p
  exact ⟨t, c, h1, fresh_back e h2, h3⟩
theorem sp_sureG {ro tb : Addr} {ns : List Int} {tab : List Kd} (hR : SqL K H ro (ns.map V.int)) (hT : TabL K H tb tab) (hl : ns.length ≤ 200) (ho : tabOk tab) : SpG (sp_law_sure K) [.ref ro, .ref tb] H (fun H v H2 => ∃ t c, v = .ref t ∧ H c = none ∧ H2 t = some (.tup [.int ((settled ns tab : Nat) : Int), .ref c]) ∧ PieN K H2 c (sure ns tab)) := fun H1 e Q k E =>
  ⟨ro, tb, ns, tab, rfl, ex_l e hR, hT.mono e, hl, ho.len', ho.wide, ho.ne, fun t c H2 hc e2 ht hR => k _ H2 e2 ⟨t, c, rfl, hc, ht, hR⟩⟩
/-- law_cut(law_back(..), len(..)) -/
theorem eg_told {ro tb : Addr} {ns : List Int} {tab : List Kd} {E E' : XK} {tr tt tl' : TE} (h1 : Ev tr σ H (.ref ro)) (h2 : Ev tt σ H (.ref tb)) (h3 : Ev tl' σ H (.ref ro)) (hR : SqL K H ro (ns.map V.int)) (hT : TabL K H tb tab) (hl : ns.length ≤ 200) (ho : tabOk tab) :
    EvG (tCall (sp_law_cut K) [] E (tCons (tCall (sp_law_back K) [] E' (tCons tr (tCons tt tNil))) (tCons (tCB (rLenS K) (tCons tl' tNil)) tNil))) σ H (NewR K ((told ns tab).map pieV)) :=
  eg_callG1a (P := NewR K ((backRs ns tab).map pieV)) (y := .int ((ns.length : Nat) : Int)) (eg_call (ea_cons h1 (ea_cons h2 ea_nil)) (fun H1 e Q k E => ⟨ro, tb, ns, tab, rfl, ex_l e hR, hT.mono e, hl, ho.len', ho.wide, k⟩) fun _ _ _ _ e p => newR_back _ _ _ _ e p) (ev_is (ev_len h3 hR) (by rw [List.length_map])) (fun H1 v H2 e1 p e2 H3 e3 Q k E => by
    obtain ⟨bf, rfl, hbf, hB⟩ := p
    exact ⟨bf, ns.length, ns, tab, rfl, hB.l.mono e3, hl, ho.wide, ho.ne, Nat.le_refl _, k⟩) fun _ _ _ _ e p => newR_back _ _ _ _ e p
/-- [law_cutting_line(..)] -/
theorem el_cutl {c : Addr} {ps : List (Nat × Str)} {E : XK} (h : Ev te σ H (.ref c)) (hR : PieL K H c ps) (ho : pieOk ps) : EvL (tLst (tCons (tCall (sp_law_cutting_line K) [] E (tCons te tNil)) tNil)) σ H [.str (cutLine ps)] :=
  el_lst (ea_cons (ev_call (ea_cons h ea_nil) fun H1 e Q k E => ⟨c, ps, rfl, hR.mono e, ho, k⟩) ea_nil) (by show 1 ≤ 100000; decide)
theorem el_cutlG {ps : List (Nat × Str)} {E : XK} (h : EvG te σ H (NewR K (ps.map pieV))) (ho : pieOk ps) : EvL (tLst (tCons (tCall (sp_law_cutting_line K) [] E (tCons te tNil)) tNil)) σ H [.str (cutLine ps)] :=
  el_lst (ea_cons (ev_callG1 h fun H1 v H2 e1 p e2 H3 e3 Q k E => by
    obtain ⟨c, rfl, _, hR⟩ := p
    exact ⟨c, ps, rfl, hR.l.mono e3, ho, k⟩) ea_nil) (by show 1 ≤ 100000; decide)
/-- a call of four, the third a new list -/
theorem t_call4L {sp : Sp} {dvs xs : List V} {E : XK} {Q : VK} {t1 t2 t3 t4 : TE} {z : V} (h1 : Ev t1 σ H x) (h2 : Ev t2 σ H y) (h3 : EvL t3 σ H xs) (h4 : Ev t4 σ H z) (hs : ∀ p H1 H2, Ex H H1 → H1 p = none → Ex H1 H2 → H2 p = some (.lst xs) → sp ([x, y, .ref p, z] ++ dvs) H2 Q E) : tCall sp dvs E (tCons t1 (tCons t2 (tCons t3 (tCons t4 tNil)))) σ H Q :=
  h1 H (Ex.refl _) _ fun H1 e1 => h2 H1 e1 _ fun H2 e2 => h3 H2 (e1.trans e2) _ fun p H3 hp e3 hp3 => h4 H3 ((e1.trans e2).trans e3) _ fun H4 e4 => hs p H2 H4 (e1.trans e2) hp (e3.trans e4) (e4 _ _ hp3)
end
end Sv
/-! The law's own state. -/
namespace Sv
open PySem PySem.Spec PyProof.Rows L2 Evl TL
def nmS (w : Nat) : Str := if w = 0 then "z" else "zz"
theorem nmS_ok (w : Nat) : nameOk (nmS w) := by
  unfold nmS
  split
  · exact ⟨by decide +kernel, by decide +kernel, by decide +kernel⟩
  · exact ⟨by decide +kernel, by decide +kernel, by decide +kernel⟩
theorem nmS_ne {w v : Nat} (hw : w < 2) (hv : v < 2) (h : w ≠ v) : nmS w ≠ nmS v := by
  have : (w = 0 ∧ v = 1) ∨ (w = 1 ∧ v = 0) := by omega
  rcases this with ⟨rfl, rfl⟩ | ⟨rfl, rfl⟩ <;> decide +kernel
def two {α : Type} (f : Nat → α) : List α := [f 0, f 1]
theorem two_at {α : Type} (f : Nat → α) {w : Nat} (h : w < 2) : (two f)[w]? = some (f w) := by
  have : w = 0 ∨ w = 1 := by omega
  rcases this with rfl | rfl <;> rfl
theorem two_atI {f : Nat → V} {w : Nat} (h : w < 2) : atI (two f) (w : Int) = some (f w) := atI_nat (two_at f h)
theorem two_set {α : Type} (f : Nat → α) {w : Nat} (h : w < 2) (x : α) : (two f).set w x = two fun j => if j = w then x else f j := by
  have : w = 0 ∨ w = 1 := by omega
  rcases this with rfl | rfl <;> rfl
def seg (r : List Int) (b t : Nat) : List Int := (r.drop b).take (t - b)
theorem seg_len {r : List Int} {b t : Nat} (h : t ≤ r.length) : (seg r b t).length = t - b := by
  unfold seg
  rw [List.length_take, List.length_drop]
  omega
theorem seg_add {r : List Int} {b t c : Nat} (h : b ≤ t) (h2 : t ≤ r.length) : seg r b t ++ (r.drop t).take c = seg r b (t + ((r.drop t).take c).length) := by
  unfold seg
  have hl : ((r.drop t).take c).length = min c (r.length - t) := by rw [List.length_take, List.length_drop]
  rw [hl]
  have e : t + min c (r.length - t) - b = (t - b) + min c (r.length - t) := by omega
  rw [e, List.take_add, List.drop_drop]
  have e2 : b + (t - b) = t := by omega
  rw [e2]
  congr 1
  by_cases h3 : c ≤ r.length - t
  · rw [Nat.min_eq_left h3]
  · rw [Nat.min_eq_right (by omega), List.take_of_length_le (by rw [List.length_drop]; omega), List.take_of_length_le (by rw [List.length_drop]; omega)]
theorem seg_self (r : List Int) (t : Nat) : seg r t t = [] := by
  unfold seg
  rw [Nat.sub_self, List.take_zero]
def lawSz : List Int := [14] ++ (List.replicate 14 [2, 5, 3]).flatten
theorem lawSz_k : ∀ k < 14, lawSz[3 * k + 1]? = some 2 ∧ lawSz[3 * k + 2]? = some 5 ∧ lawSz[3 * k + 3]? = some 3 := by decide
theorem three_at {α : Type} {xs : List α} {j : Nat} {a b c : α} (h0 : xs[j]? = some a) (h1 : xs[j + 1]? = some b) (h2 : xs[j + 2]? = some c) : (xs.drop j).take 3 = [a, b, c] := by
  obtain ⟨g0, e0⟩ := List.getElem?_eq_some_iff.mp h0
  obtain ⟨g1, e1⟩ := List.getElem?_eq_some_iff.mp h1
  obtain ⟨g2, e2⟩ := List.getElem?_eq_some_iff.mp h2
  rw [List.drop_eq_getElem_cons g0, List.drop_eq_getElem_cons g1, List.drop_eq_getElem_cons g2, e0, e1, e2]
  rfl
/-- the two feeds -/
def Feeds (A : DS) (r : Nat → List Int) (b t : Nat → Nat) : Prop := A.length ≤ 12 ∧ ∀ w < 2, (∃ k, A.get (nmS w) = some ⟨seg (r w) (b w) (t w), k, false⟩) ∧ b w ≤ t w ∧ t w ≤ (r w).length
/-- the objects of the law -/
structure LH (K : PySem.W.Frag) (H : Hp) (tb sm nm rls tk bg : Addr) (ra : Nat → Addr) (own : List Addr) (tab : List Kd) (zs : List Int) (r : Nat → List Int) (b t : Nat → Nat) : Prop where
  hB : RowsN K H tb (tab.map kindV)
  hs : H sm = some (.lst (zs.map V.int))
  hn : H nm = some (.lst (two fun w => .str (nmS w)))
  hr : H rls = some (.lst (two fun w => .ref (ra w)))
  ha : ∀ w < 2, H (ra w) = some (.lst ((r w).map V.int))
  ht : H tk = some (.lst (two fun w => .int ((t w : Nat) : Int)))
  hb : H bg = some (.lst (two fun w => .int ((b w : Nat) : Int)))
  no : tb ∉ own ∧ sm ∉ own ∧ nm ∉ own ∧ rls ∉ own ∧ (∀ w < 2, ra w ∉ own) ∧ tk ∉ own ∧ bg ∉ own
  nt : tb ≠ tk ∧ sm ≠ tk ∧ nm ≠ tk ∧ rls ≠ tk ∧ (∀ w < 2, ra w ≠ tk) ∧ bg ≠ tk
  nb : tb ≠ bg ∧ sm ≠ bg ∧ nm ≠ bg ∧ rls ≠ bg ∧ (∀ w < 2, ra w ≠ bg)
section
variable {K : PySem.W.Frag} {H H' : Hp} {d tb sm nm rls tk bg : Addr} {ra : Nat → Addr} {own own' : List Addr} {A : DS} {tab : List Kd} {zs : List Int} {r : Nat → List Int} {b t : Nat → Nat}
theorem LH.ex (L : LH K H tb sm nm rls tk bg ra own tab zs r b t) (e : Ex H H') : LH K H' tb sm nm rls tk bg ra own tab zs r b t :=
  ⟨L.hB.mono e, e _ _ L.hs, e _ _ L.hn, e _ _ L.hr, fun w hw => e _ _ (L.ha w hw), e _ _ L.ht, e _ _ L.hb, L.no, L.nt, L.nb⟩
theorem LH.pass (L : LH K H tb sm nm rls tk bg ra own tab zs r b t) (D : DeskA K H d own A tab) (p : Pass own own' H H') : LH K H' tb sm nm rls tk bg ra own' tab zs r b t := by
  obtain ⟨n1, n2, n3, n4, n5, n6, n7⟩ := L.no
  obtain ⟨ts, h1, _⟩ := id L.hB
  exact ⟨D.rows p.1 L.hB n1, p.1 _ _ L.hs n2, p.1 _ _ L.hn n3, p.1 _ _ L.hr n4, fun w hw => p.1 _ _ (L.ha w hw) (n5 w hw), p.1 _ _ L.ht n6, p.1 _ _ L.hb n7, ⟨p.out h1 n1, p.out L.hs n2, p.out L.hn n3, p.out L.hr n4, fun w hw => p.out (L.ha w hw) (n5 w hw), p.out L.ht n6, p.out L.hb n7⟩, L.nt, L.nb⟩
theorem LH.setT (L : LH K H tb sm nm rls tk bg ra own tab zs r b t) (t' : Nat → Nat) : LH K (upd H tk (.lst (two fun w => .int ((t' w : Nat) : Int)))) tb sm nm rls tk bg ra own tab zs r b t' := by
  obtain ⟨n1, n2, n3, n4, n5, n6⟩ := L.nt
  obtain ⟨ts, h1, h2⟩ := id L.hB
  exact ⟨⟨ts, by rw [upd_ne n1]; exact h1, h2.mono fun _ _ q => sqt_lst q L.ht _⟩, by rw [upd_ne n2]; exact L.hs, by rw [upd_ne n3]; exact L.hn, by rw [upd_ne n4]; exact L.hr, fun w hw => by rw [upd_ne (n5 w hw)]; exact L.ha w hw, upd_same, by rw [upd_ne n6]; exact L.hb, L.no, L.nt, L.nb⟩
theorem LH.setB (L : LH K H tb sm nm rls tk bg ra own tab zs r b t) (b' : Nat → Nat) : LH K (upd H bg (.lst (two fun w => .int ((b' w : Nat) : Int)))) tb sm nm rls tk bg ra own tab zs r b' t := by
  obtain ⟨n1, n2, n3, n4, n5⟩ := L.nb
  obtain ⟨ts, h1, h2⟩ := id L.hB
  exact ⟨⟨ts, by rw [upd_ne n1]; exact h1, h2.mono fun _ _ q => sqt_lst q L.hb _⟩, by rw [upd_ne n2]; exact L.hs, by rw [upd_ne n3]; exact L.hn, by rw [upd_ne n4]; exact L.hr, fun w hw => by rw [upd_ne (n5 w hw)]; exact L.ha w hw, by rw [upd_ne L.nt.2.2.2.2.2.symm]; exact L.ht, upd_same, L.no, L.nt, L.nb⟩
/-- the desk where a list that is none of its own is changed -/
theorem DeskA.upd (D : DeskA K H d own A tab) {a : Addr} {xs : List V} {o : HO} (h : H a = some (.lst xs)) (n : a ∉ own) : DeskA K (L2.upd H a o) d own A tab := by
  obtain ⟨fd, kl, frs, h1, h2, D⟩ := D
  obtain ⟨dx, st, te, un, g1, g2, ⟨ys, g3⟩, g4⟩ := id D.ob
  have no : ∀ x, x ∈ owns d fd kl frs → x ≠ a := fun x hx e => n (by rw [h1, ← e]; exact hx)
  have bb : ExB a H (L2.upd H a o) := (Ex.b (Ex.refl _) a).upd _
  have kp : ∀ {x : Addr} {u : HO}, H x = some u → x ∈ owns d fd kl frs → (L2.upd H a o) x = some u := fun hx m => bb _ _ hx (no _ m)
  have hkl : kl ≠ a := no _ (mem_owns.mpr (.inr (.inr (.inr (.inr (.inl rfl))))))
  have htl : ∀ r ∈ frs, r.tl ≠ a := fun r hr => no _ (mem_owns.mpr (.inr (.inr (.inr (.inr (.inr ⟨r, hr, rfl⟩))))))
  refine ⟨fd, kl, frs, h1, h2, ⟨⟨dx, st, te, un, kp g1 (mem_owns.mpr (.inl rfl)), bb.rowsLst g2 h hkl, ⟨ys, bb _ _ g3 hkl⟩, g4⟩, kp D.fds (mem_owns.mpr (.inr (.inl rfl))), D.nd, fun r hr => ?_, D.fnd, D.cnd, D.tln, D.inv, fun r hr => ?_⟩⟩
  · have F := D.at_ r hr
    exact ⟨kp F.ob (mem_owns.mpr (.inr (.inr (.inl ⟨r, hr, rfl⟩)))), kp F.came (mem_owns.mpr (.inr (.inr (.inr (.inl ⟨r, hr, rfl⟩))))), bb.rowsLst F.tabl h (htl r hr), F.ne⟩
  · obtain ⟨zs, hz⟩ := D.tlo r hr
    exact ⟨zs, bb _ _ hz (htl r hr)⟩
end
section
variable {K : PySem.W.Frag} {σ : L2.St} {H H' : Hp} {ta tb tc te tx to : TE} {D : Ends} {tu tw tz : TS} {t u : TT} {P P' : Hp → V → Hp → Prop} {x y v : V}
theorem eg_desk : EvG (tMake (He.ga K "Desk") (sp_Desk_init K) [] E0 tNil) σ H (fun H v H2 => ∃ p own, v = .ref p ∧ DeskA K H2 p own [] [] ∧ ∀ a ∈ own, H a = none) := fun H1 e Q q => by
  intro x dx hx hdx hne
  have eN : Ex H1 (upd (upd H1 dx (.own x)) x (.ins (He.ga K "Desk") dx [])) := fun b o hb => by
    rw [upd_ne (ne_of_none hb hx), upd_ne (ne_of_none hb hdx)]
    exact hb
  refine ⟨x, dx, rfl, upd_same, fun own H' D b hf => ⟨rfl, q _ _ (b.ex eN hx) ⟨x, own, rfl, D, fun a ha => ?_⟩⟩⟩
  rcases hf a ha with h | h
  · rw [h]
    exact hx
  · exact fresh_back eN h
theorem eg_call4Z {sp : Sp} {dvs : List V} {E : XK} {t1 t2 t3 t4 : TE} {z : V} {Pz : Int → Prop} (h1 : Ev t1 σ H x) (h2 : Ev t2 σ H y) (h3 : Ev t3 σ H z) (h4 : EvG t4 σ H (fun _ v _ => ∃ n, v = .int n ∧ Pz n)) (hs : ∀ n H1, Pz n → Ex H H1 → SpG sp ([x, y, z, .int n] ++ dvs) H1 P) (hP : ∀ H1 H2 v H3, Ex H1 H2 → P H2 v H3 → P H1 v H3) : EvG (tCall sp dvs E (tCons t1 (tCons t2 (tCons t3 (tCons t4 tNil))))) σ H P := fun H0 e Q q =>
  h1 H0 e _ fun H1 e1 => h2 H1 (e.trans e1) _ fun H2 e2 => h3 H2 ((e.trans e1).trans e2) _ fun H3 e3 => h4 H3 (((e.trans e1).trans e2).trans e3) _ fun w H4 e4 p => by
    obtain ⟨n, rfl, hn⟩ := p
    exact hs n H4 hn ((((e.trans e1).trans e2).trans e3).trans e4) H4 (Ex.refl _) Q (fun w H5 e5 pw => q w H5 ((((e1.trans e2).trans e3).trans e4).trans e5) (hP _ _ _ _ (((e1.trans e2).trans e3).trans e4) pw)) E
theorem s_said {d : Addr} {line : Str} {own : List Addr} {A A' : DS} {tab tab' : List Kd} {r : Req} {a : Str} {E : XK} (ha : Ev ta σ H (.ref d)) (hb : Ev tb σ H (.str line)) (hc : EvL tc σ H [.str a]) (hl : lineIs line r) (hr : r.ok) (D0 : DeskA K H d own A tab) (ho : PyData.strOk a = true) (hT : tabOk tab)
    (hs : ∀ s, A.get r.name = some s → s.ns.length + r.more.length ≤ 200) (hst : stepD tab A r = some (a, tab', A')) (k : ∀ own' H', DeskA K H' d own' A' tab' → Pass own own' H H' → D.nx σ H') : tIfS (tNot (tTest (tCall (sp_law_said K) [] E (tCons ta (tCons tb (tCons tc tNil)))))) tu tNext D σ H :=
  t_said ha hb hc hl hr D0 ho hT hs hst fun own' H' D' p => ⟨true, rfl, k own' H' D' p⟩
theorem q_asgU3 {i j l : Nat} {w1 w2 w3 : V} (h : EvL te σ H [w1, w2, w3]) (k : ∀ H1, Ex H H1 → tz D (((σ.set i (some w1)).set j (some w2)).set l (some w3)) H1) : tSeq (tAsg te (gUnl K 3 (gCons (gName i) (gCons (gName j) (gCons (gName l) gNil))))) tz D σ H :=
  h H (Ex.refl H) _ fun p H1 _ e hp => ⟨p, _, rfl, sq_of hp, rfl, w1, _, rfl, w2, _, rfl, w3, _, rfl, rfl, k H1 e⟩
def Kn (tu tz : TS) (D : Ends) (σ : L2.St) : VK := fun v H1 => ∃ k, v = .bl k ∧ (if (!k) = true then tu { D with nx := tz D } σ H1 else tNext { D with nx := tz D } σ H1)
theorem kn (h : tz D σ H) : Kn tu tz D σ (.bl true) H := ⟨true, rfl, h⟩
theorem q_notC {sp : Sp} {dvs : List V} {E : XK} {ta : TA} (h : tCall sp dvs E ta σ H (Kn tu tz D σ)) : tSeq (tIfS (tNot (tTest (tCall sp dvs E ta))) tu tNext) tz D σ H := h
def KnS (tu : TS) (D : Ends) (σ : L2.St) : VK := fun v H1 => ∃ k, v = .bl k ∧ (if (!k) = true then tu D σ H1 else tNext D σ H1)
theorem knS (h : D.nx σ H) : KnS tu D σ (.bl true) H := ⟨true, rfl, h⟩
theorem s_notC {sp : Sp} {dvs : List V} {E : XK} {ta : TA} (h : tCall sp dvs E ta σ H (KnS tu D σ)) : tIfS (tNot (tTest (tCall sp dvs E ta))) tu tNext D σ H := h
theorem t_callA {sp : Sp} {dvs vs : List V} {E : XK} {ta : TA} {Q : VK} (h : EvA ta σ H vs) (hs : ∀ H1, Ex H H1 → sp (vs ++ dvs) H1 Q E) : tCall sp dvs E ta σ H Q := h H (Ex.refl _) _ hs
theorem q_andNot {b : Bool} (M : Hp → Prop) {sp : Sp} {dvs : List V} {E : XK} {ta : TA} (h : EvT t σ H b) (k0 : b = false → ∀ H1, Ex H H1 → M H1) (k1 : ∀ Kc : VK, (∀ H1, M H1 → Kc (.bl true) H1) → b = true → ∀ H1, Ex H H1 → tCall sp dvs E ta σ H1 Kc) (k : ∀ H1, M H1 → tz D σ H1) : tSeq (tIfS (tAnd t (tNot (tTest (tCall sp dvs E ta)))) tu tNext) tz D σ H :=
  h H (Ex.refl _) _ fun H1 e1 => by
    cases b with
    | false => exact k H1 (k0 rfl H1 e1)
    | true => exact k1 (Kn tu tz D σ) (fun H1 m => kn (k H1 m)) rfl H1 e1
end
end Sv
namespace Sv
open PySem PySem.Spec PyProof.Rows L2 Evl TL
theorem ok_law_cell {P : Program} {w : World} {K : PySem.W.Frag} {mg : Str → Option Value} {base : Heap} {k : Nat} (T : Top K mg)  :
    Ok P w K mg base (k + 1) (He.ga K "_law_cell") p_law_cell (sp_law_cell K) := by
  obtain ⟨fd, FD⟩ := T.d_law_cell
  refine ⟨fd, FunD.ok FD sc_law_cell (fun vs H Q E h => by obtain ⟨_, _, _, rfl, _⟩ := h; rfl) (fun cdv A outer s H vs Q E hr h => ?_), FD.bindsN fun _ _ _ _ _ _ us hl => match us, hl with | [_, _], _ => rfl, FD.kp⟩
  have nd := sc_law_cell.nd
  have hu := hu_of hr
  refine ⟨_, PSs.nox (pss_cons (ps_if (pt_cmpR op_lt (pv 1) (pe_callB (call_lenK (K := K)) (by rfl) T.f_len (by decide +kernel) (pa_cons (pv 0) pa_nil)) (nomark _))
       (pss_one (ps_ret (pe_ix (ix_listK (K := K)) (pv 0) (pv 1) (fun _ _ => rfl)))) pss_nil)
      (pss_cons (ps_set (i := 2) nd rfl (Or.inl rfl) pe_int)
      (pss_cons (ps_for PassesOwn.never rfl (pi_listK (K := K) (pe_slice (sl_listK (K := K)) (pv 0) po_none (po_some pe_int))) (pg_name (i := 3) nd rfl (Or.inl rfl))
       (pss_one (ps_set (i := 2) nd rfl (Or.inl rfl) (pe_op op_mod (pe_op op_add (pe_op op_add (pe_op op_mul (pv 2) pe_int) (pe_op op_mod (pv 3) pe_int)) pe_int) pe_int))))
      (pss_one (ps_ret (pe_op op_mod (pe_op op_add (pv 2) (pe_op op_mul pe_int (pv 1))) pe_int)))))), ?_⟩
  obtain ⟨a, p, sc, rfl, hS, h0, h1, q⟩ := h
  refine q_when (b := decide (p < (sc.length : Int))) (et_is (et_test (ev_op (ev_var rfl) (ev_len (ev_var rfl) hS) rv_I0)) (by rw [List.length_map])) (fun hb H1 e1 => ?_) fun hb H1 e1 => ?_
  · have hlt := of_decide_eq_true hb
    obtain ⟨n, rfl⟩ : ∃ n : Nat, p = (n : Int) := ⟨p.toNat, by omega⟩
    have hn : n < sc.length := by omega
    exact s_ret (ev_op (ev_var rfl) (ev_var rfl) (rv_ixL (ex_l e1 hS) (at_int rfl (List.getElem?_eq_getElem hn)))) fun H2 e2 => q _ _ (e1.trans e2)
  · refine q_asg (v := .int 5) ev_c fun H2 e2 => ?_
    have e12 := e1.trans e2
    obtain ⟨ys, hys⟩ := cutV_map sc V.int none (some 63)
    refine q_forNLn (xs := ys.map V.int) (by rw [← hys]; exact el_sl (ev_var rfl) eo_none (eo_some ev_c) (ex_l e12 hS)) (fun pl i σ' H' => ∃ (z : Int) (w4 : Option V), σ' = [some (.ref a), some (.int p), some (.int z), w4] ∧ 0 ≤ z ∧ z < 2147483647 ∧ Ex H H' ∧ H' pl = some (.lst (ys.map V.int))) ?_ ?_ ?_ ?_
    · exact fun pl H3 hp e3 h3 => ⟨5, none, rfl, by omega, by omega, e12.trans e3, h3⟩
    · rintro pl i σ' H' _ ⟨z, w4, rfl, _, _, _, h3⟩
      exact sq_of h3
    · rintro pl i y σ' H' hi ⟨z, w4, rfl, hz0, hz1, e3, h3⟩
      obtain ⟨c, hc, rfl⟩ := map_get hi
      have hm := Int.emod_nonneg c (show (1000003 : Int) ≠ 0 by decide)
      refine s_asg (ev_op (ev_op (ev_op (ev_op (ev_var rfl) ev_c (rv_I (cmul (by omega) (by omega)))) (ev_op (ev_var rfl) ev_c (rv_I (by decide))) rv_I0) ev_c rv_I0) ev_c (rv_I (by decide))) fun H4 e4 => ?_
      exact ⟨_, some (.int c), rfl, Int.emod_nonneg _ (by decide), Int.emod_lt_of_pos _ (by decide), e3.trans e4, e4 _ _ h3⟩
    · rintro pl σ' H' ⟨z, w4, rfl, hz0, hz1, e3, h3⟩
      exact s_ret (ev_op (ev_op (ev_var rfl) (ev_op ev_c (ev_var rfl) (rv_I (cmul (by omega) (by omega)))) rv_I0) ev_c (rv_I (by decide))) fun H2 e2 => q _ _ (e3.trans e2)
end Sv
namespace Sv
open PySem PySem.Spec PyProof.Rows L2 Evl TL
theorem ok_law_mix {P : Program} {w : World} {K : PySem.W.Frag} {mg : Str → Option Value} {base : Heap} {k : Nat} (T : Top K mg)  :
    Ok P w K mg base (k + 1) (He.ga K "_law_mix") p_law_mix (sp_law_mix K) := by
  obtain ⟨fd, FD⟩ := T.d_law_mix
  refine ⟨fd, FunD.ok FD sc_law_mix (fun vs H Q E h => by obtain ⟨_, _, rfl, _⟩ := h; rfl) (fun cdv A outer s H vs Q E hr h => ?_), FD.bindsN fun _ _ _ _ _ _ us hl => match us, hl with | [_, _], _ => rfl, FD.kp⟩
  have nd := sc_law_mix.nd
  have hu := hu_of hr
  refine ⟨_, PSs.nox (pss_cons (ps_set (i := 2) nd rfl (Or.inl rfl) (pe_op op_mod (pe_op op_pow (pe_op op_add (pe_op op_add (pe_op op_mod (pv 0) pe_int) (pe_op op_mulW pe_int (pv 1))) pe_int) pe_int) pe_int))
      (pss_cons (ps_set (i := 3) nd rfl (Or.inl rfl) (pe_op op_mod (pe_op op_add (pe_op op_add (pe_op op_mulW (pv 2) pe_int) (pe_op op_mulW (pe_op op_mulW pe_int (pv 1)) (pv 1))) pe_int) pe_int))
      (pss_one (ps_ret (pe_op op_fdiv (pv 3) pe_int))))), ?_⟩
  obtain ⟨c, k', rfl, h0, h1, q⟩ := h
  have m0 := Int.emod_nonneg c (show (2147483629 : Int) ≠ 0 by decide)
  have m1 := Int.emod_lt_of_pos c (show (0 : Int) < 2147483629 by decide)
  refine q_asg (ev_op (ev_op (ev_op (ev_op (ev_op (ev_var rfl) ev_c (rv_I (by decide))) (ev_op ev_c (ev_var rfl) (rv_I (cmulW (by omega) (by omega) (by omega) (by omega)))) rv_I0) ev_c rv_I0) ev_c (rv_I ⟨by decide, by decide, ?_⟩)) ev_c (rv_I (by decide))) fun H1 e1 => ?_
  · show (c % 2147483629 + 1013 * k' + 7919).natAbs < 18446744073709551616
    omega
  generalize hz : (c % 2147483629 + 1013 * k' + 7919) ^ (3 : Int).toNat = z
  have z0 := Int.emod_nonneg z (show (2147483647 : Int) ≠ 0 by decide)
  have z1 := Int.emod_lt_of_pos z (show (0 : Int) < 2147483647 by decide)
  have kk : 0 ≤ 3793 * k' ∧ 3793 * k' ≤ 3793000 := by omega
  refine q_asg (ev_op (ev_op (ev_op (ev_op (ev_var rfl) ev_c (rv_I (cmulW (by omega) (by omega) (by omega) (by omega)))) (ev_op (ev_op ev_c (ev_var rfl) (rv_I (cmulW (by omega) (by omega) (by omega) (by omega)))) (ev_var rfl) (rv_I (cmulW (by omega) (by omega) (by omega) (by omega)))) rv_I0) ev_c rv_I0) ev_c (rv_I (by decide))) fun H2 e2 => ?_
  exact s_ret (ev_op (ev_var rfl) ev_c (rv_I ⟨by decide, by decide⟩)) fun H3 e3 => q _ _ ((e1.trans e2).trans e3)
end Sv
namespace Sv
open PySem PySem.Spec PyProof.Rows L2 Evl TL
theorem A2.take_get {α β : Type} {R : α → β → Prop} {xs : List β} {zs : List α} {i : Nat} {x : β} {z : α} (h : A2 R zs (xs.take i)) (e : xs[i]? = some x) (r : R z x) : A2 R (zs ++ [z]) (xs.take (i + 1)) := by
  rw [List.take_succ_eq_append_getElem (lt_of_get e), (List.getElem?_eq_some_iff.mp e).2]
  exact h.snoc r
theorem eg_mixmod {K : PySem.W.Frag} {σ : L2.St} {H : Hp} {ta tb te : TE} {E : XK} {c k : Int} {s : Int} (ha : Ev ta σ H (.int c)) (hb : Ev tb σ H (.int k)) (h0 : 0 ≤ k ∧ k ≤ 1000) (hs : Ev te σ H (.int s)) (hp : 0 < s) :
    EvG (tOp (rI (fun _ j => 0 < j) fun i j => .int (i % j)) (tCall (sp_law_mix K) [] E (tCons ta (tCons tb tNil))) te) σ H (fun _ v _ => ∃ z, v = .int z ∧ 0 ≤ z ∧ z < s) :=
  eg_opZ (Pz := fun _ => True) (Pw := fun z => 0 ≤ z ∧ z < s) (eg_callZ (ea_cons ha (ea_cons hb ea_nil)) fun H1 e Q q E => ⟨c, k, rfl, h0.1, h0.2, fun z H2 e2 => q z H2 trivial e2⟩) hs fun z H1 _ _ => ⟨z % s, ⟨Int.emod_nonneg _ (by omega), Int.emod_lt_of_pos _ hp⟩, rv_I hp⟩
theorem s_appZ {K : PySem.W.Frag} {σ : L2.St} {H : Hp} {ta te : TE} {D : Ends} {l : Addr} {xs : List Int} {Pz : Int → Prop} (hl : H l = some (.lst (xs.map V.int))) (ha : Ev ta σ H (.ref l)) (h : EvG te σ H (fun _ v _ => ∃ z, v = .int z ∧ Pz z)) (hz : xs.length < 100000) (k : ∀ z H1, Pz z → ExB l H H1 → H1 l = some (.lst ((xs ++ [z]).map V.int)) → D.nx σ H1) :
    tDrop (tBM K "list" rAppend ta (tCons te tNil)) D σ H := ha H (Ex.refl H) _ fun H1 e1 =>
  ⟨Or.inl ⟨rfl, _, sq_of (e1 l _ hl)⟩, h H1 e1 _ fun v H2 e2 p => by
    obtain ⟨z, rfl, hz'⟩ := p
    exact ⟨l, _, .int z, rfl, rfl, e2 l _ (e1 l _ hl), sz_lt (by rw [List.length_map]; exact hz), k z _ hz' ((Ex.b (e1.trans e2) l).upd _) (by rw [upd_same, List.map_append]; rfl)⟩⟩
theorem ok_law_row {P : Program} {w : World} {K : PySem.W.Frag} {mg : Str → Option Value} {base : Heap} {k : Nat} (T : Top K mg) (O_law_cell : Ok P w K mg base k (He.ga K "_law_cell") p_law_cell (sp_law_cell K)) (O_law_mix : Ok P w K mg base k (He.ga K "_law_mix") p_law_mix (sp_law_mix K)) :
    Ok P w K mg base (k + 1) (He.ga K "_law_row") p_law_row (sp_law_row K) := by
  obtain ⟨fd_law_cell, F_law_cell, b_law_cell, k_law_cell⟩ := O_law_cell
  obtain ⟨fd_law_mix, F_law_mix, b_law_mix, k_law_mix⟩ := O_law_mix
  obtain ⟨fd, FD⟩ := T.d_law_row
  refine ⟨fd, FunD.ok FD sc_law_row (fun vs H Q E h => by obtain ⟨_, _, _, _, _, rfl, _⟩ := h; rfl) (fun cdv A outer s H vs Q E hr h => ?_), FD.bindsN fun _ _ _ _ _ _ us hl => match us, hl with | [_, _, _], _ => rfl, FD.kp⟩
  have nd := sc_law_row.nd
  have hu := hu_of hr
  refine ⟨_, PSs.nox (pss_cons (ps_set (i := 3) nd rfl (Or.inl rfl) (pe_call F_law_cell hr rfl T.g_law_cell k_law_cell b_law_cell .nil pass0 (pa_cons (pv 0) (pa_cons (pv 1) pa_nil))))
      (pss_cons (ps_set (i := 4) nd rfl (Or.inl rfl) (pv 3))
      (pss_cons (ps_set (i := 5) nd rfl (Or.inl rfl) (pe_lst pa_nil))
      (pss_cons (ps_for PassesOwn.never rfl (pi_range1 rfl T.f_range (pa_cons (pe_callB (call_lenK (K := K)) (by rfl) T.f_len (by decide +kernel) (pa_cons (pv 2) pa_nil)) pa_nil)) (pg_name (i := 6) nd rfl (Or.inl rfl))
       (pss_one (ps_if (pt_cmpR op_lt (pv 3) (pe_op op_pow pe_int pe_int) (nomark _))
         (pss_one (ps_expr (pe_bmK (K := K) PySem.F.plainAttrs_list PySem.F.slot_list_append PySem.F.type_list_append mt_append (pv 5) (pa_cons (pe_op op_mod (pe_call F_law_mix hr rfl T.g_law_mix k_law_mix b_law_mix .nil pass0 (pa_cons (pv 3) (pa_cons (pv 6) pa_nil))) (pe_ix (ix_listK (K := K)) (pv 2) (pv 6) (fun _ _ => rfl))) pa_nil))))
         (pss_one (ps_if (pt_cmpR op_gt (pv 4) pe_int (nomark _))
           (pss_cons (ps_expr (pe_bmK (K := K) PySem.F.plainAttrs_list PySem.F.slot_list_append PySem.F.type_list_append mt_append (pv 5) (pa_cons (pe_op op_mod (pv 4) (pe_ix (ix_listK (K := K)) (pv 2) (pv 6) (fun _ _ => rfl))) pa_nil)))
            (pss_one (ps_set (i := 4) nd rfl (Or.inl rfl) (pe_op op_fdiv (pv 4) (pe_ix (ix_listK (K := K)) (pv 2) (pv 6) (fun _ _ => rfl))))))
           (pss_cons (ps_set (i := 7) nd rfl (Or.inl rfl) (pe_call F_law_cell hr rfl T.g_law_cell k_law_cell b_law_cell .nil pass0 (pa_cons (pv 0) (pa_cons (pe_op op_mod (pe_op op_add (pe_op op_add (pv 1) pe_int) (pv 6)) pe_int) pa_nil))))
            (pss_one (ps_expr (pe_bmK (K := K) PySem.F.plainAttrs_list PySem.F.slot_list_append PySem.F.type_list_append mt_append (pv 5) (pa_cons (pe_op op_mod (pe_call F_law_mix hr rfl T.g_law_mix k_law_mix b_law_mix .nil pass0 (pa_cons (pv 7) (pa_cons (pv 6) pa_nil))) (pe_ix (ix_listK (K := K)) (pv 2) (pv 6) (fun _ _ => rfl))) pa_nil))))))))))
      (pss_one (ps_ret (pv 5))))))), ?_⟩
  obtain ⟨a, s, p, sc, sz, rfl, hS, hZ, p0, p1, hl, hsz, q⟩ := h
  refine q_asgG (eg_callZ (Pz := fun _ => True) (ea_cons (ev_var rfl) (ea_cons (ev_var rfl) ea_nil)) fun H1 e Q q E => ⟨a, p, sc, rfl, ex_l e hS, p0, by omega, fun z H2 e2 => q z H2 trivial e2⟩) fun v H1 e1 p1' => ?_
  obtain ⟨c, rfl, _⟩ := p1'
  refine q_asg (v := .int c) (ev_var rfl) fun H2 e2 => ?_
  refine q_asgL (el_lst ea_nil (by decide)) fun l H3 hl3 e3 h3 => ?_
  have e02 := e1.trans e2
  have e03 := e02.trans e3
  have hlH := fresh_back e02 hl3
  refine q_forR1 (n := (sz.length : Int)) (by have e4 : ((sz.map V.int).length : Int) = (sz.length : Int) := by rw [List.length_map]
                                              rw [← e4]; exact ea_cons (ev_len (ev_var rfl) (ex_l e03 hZ)) ea_nil) ⟨by omega, by omega⟩ (fun i σ' H' => ∃ (z : Int) (zs : List Int) (w6 w7 : Option V), σ' = [some (.ref a), some (.int p), some (.ref s), some (.int c), some (.int z), some (.ref l), w6, w7] ∧ Ex H H' ∧ H' l = some (.lst (zs.map V.int)) ∧ Drawn (sz.take i) zs) ?_ ?_ ?_
  · exact fun H4 e4 => ⟨c, [], none, none, rfl, e03.trans e4, e4 _ _ h3, by rw [List.take_zero]; exact .nil⟩
  · rintro i σ' H' hi ⟨z, zs, w6, w7, rfl, e4, h4, hD⟩
    have hil : i < sz.length := by omega
    have hg : sz[i]? = some sz[i] := List.getElem?_eq_getElem hil
    have hpos := hsz _ (List.getElem_mem hil)
    have hzl : zs.length < 100000 := by
      have := hD.length
      rw [List.length_take] at this
      omega
    have ixS : ∀ {H5 : Hp} {σ' : L2.St} {ta tb : TE}, Ex H' H5 → Ev ta σ' H5 (.ref s) → Ev tb σ' H5 (.int (i : Int)) → Ev (tOp (rIxL K) ta tb) σ' H5 (.int sz[i]) := fun e h1 h2 => ev_op h1 h2 (rv_ixL (ex_l (e4.trans e) hZ) (at_int rfl hg))
    have done : ∀ {H5 H6 : Hp} {z' : Int}, Ex H' H5 → ExB l H5 H6 → Ex H H6 := fun {H5 H6 _} e b => fun x o hx => b x o (e x o (e4 x o hx)) (ne_of_none hx hlH)
    refine s_if (b := decide (c < 1000000000000000000)) (et_is (et_test (ev_op (ev_var rfl) (ev_op ev_c ev_c (rv_I ⟨by decide, by decide, by decide⟩)) rv_I0)) rfl) (fun hb H5 e5 => ?_) fun hb H5 e5 => ?_
    · refine s_appZ (e5 _ _ h4) (ev_var rfl) (eg_mixmod (ev_var rfl) (ev_var rfl) ⟨by omega, by omega⟩ (ixS e5 (ev_var rfl) (ev_var rfl)) hpos.1) hzl fun z' H6 hz' b6 h6 => ?_
      exact ⟨z, zs ++ [z'], _, w7, rfl, done (z' := z') e5 b6, h6, hD.take_get hg hz'⟩
    · refine s_if (b := decide (z > 0)) (et_test (ev_op (ev_var rfl) ev_c rv_I0)) (fun hb H6 e6 => ?_) fun hb H6 e6 => ?_
      · have e56 := e5.trans e6
        refine q_appV (v := .int (z % sz[i])) (e56 _ _ h4) (ev_var rfl) (ev_op (ev_var rfl) (ixS e56 (ev_var rfl) (ev_var rfl)) (rv_I hpos.1)) (by rw [List.length_map]; exact hzl) fun H7 b7 h7 => ?_
        have e7 := done (z' := z) e56 b7
        refine s_asg (ev_op (ev_var rfl) (ev_op (ev_var rfl) (ev_var rfl) (rv_ixL (ex_l e7 hZ) (at_int rfl hg))) (rv_I ⟨hpos.1, by omega⟩)) fun H8 e8 => ?_
        exact ⟨_, zs ++ [z % sz[i]], _, w7, rfl, e7.trans e8, by rw [List.map_append]; exact e8 _ _ h7, hD.take_get hg ⟨Int.emod_nonneg _ (by omega), Int.emod_lt_of_pos _ hpos.1⟩⟩
      · have e56 := e5.trans e6
        have pm := Int.emod_nonneg (p + 1 + (i : Int)) (show (63 : Int) ≠ 0 by decide)
        have pm1 := Int.emod_lt_of_pos (p + 1 + (i : Int)) (show (0 : Int) < 63 by decide)
        refine q_asgG (eg_callZ (Pz := fun _ => True) (ea_cons (ev_var rfl) (ea_cons (ev_op (ev_op (ev_op (ev_var rfl) ev_c rv_I0) (ev_var rfl) rv_I0) ev_c (rv_I (by decide))) ea_nil)) fun H1 e Q q E => ⟨a, _, sc, rfl, ex_l (e4.trans (e56.trans e)) hS, pm, by omega, fun z H2 e2 => q z H2 trivial e2⟩) fun v H7 e7 p7 => ?_
        obtain ⟨o, rfl, _⟩ := p7
        have e57 := e56.trans e7
        refine s_appZ (e57 _ _ h4) (ev_var rfl) (eg_mixmod (ev_var rfl) (ev_var rfl) ⟨by omega, by omega⟩ (ixS e57 (ev_var rfl) (ev_var rfl)) hpos.1) hzl fun z' H6 hz' b6 h6 => ?_
        exact ⟨z, zs ++ [z'], _, _, rfl, done (z' := z') e57 b6, h6, hD.take_get hg hz'⟩
  · rintro σ' H' ⟨z, zs, w6, w7, rfl, e4, h4, hD⟩
    rw [Int.toNat_natCast, List.take_length] at hD
    exact s_ret (ev_var rfl) fun H5 e5 => q _ _ (e4.trans e5) ⟨zs, ⟨l, rfl, hlH, e5 _ _ h4⟩, hD⟩
end Sv
namespace Sv
open PySem PySem.Spec PyProof.Rows L2 Evl TL
theorem ev_pickG {K : PySem.W.Frag} {σ : L2.St} {H : Hp} {ta tb : TE} {D : Ends} {xs : List Int} {n : Int} {Pz : Int → Prop} (hx : ∀ x ∈ xs, Pz x) (hn : n = (xs.length : Int)) (ha : EvL ta σ H (xs.map V.int)) (hb : ∀ H1, Ex H H1 → EvG tb σ H1 (fun _ v _ => ∃ z, v = .int z ∧ 0 ≤ z ∧ z < n)) (k : ∀ w H1, Pz w → Ex H H1 → D.rt (.int w) H1) : tRet (tOp (rIxL K) ta tb) D σ H :=
  ha H (Ex.refl _) _ fun p H1 hp e1 h1 => hb H1 e1 H1 (Ex.refl _) _ fun v H2 e2 p2 => by
    obtain ⟨z, rfl, h0, h3⟩ := p2
    obtain ⟨w, hw, hPw⟩ := pick hx h0 (by rw [← hn]; exact h3)
    exact ⟨p, _, z, .int w, rfl, rfl, sq_of (e2 _ _ h1), hw, k w H2 hPw (e1.trans e2)⟩
theorem ok_law_flaw {P : Program} {w : World} {K : PySem.W.Frag} {mg : Str → Option Value} {base : Heap} {k : Nat} (T : Top K mg) (O_law_row : Ok P w K mg base k (He.ga K "_law_row") p_law_row (sp_law_row K)) :
    Ok P w K mg base (k + 1) (He.ga K "_law_flaw") p_law_flaw (sp_law_flaw K) := by
  obtain ⟨fd_law_row, F_law_row, b_law_row, k_law_row⟩ := O_law_row
  obtain ⟨fd, FD⟩ := T.d_law_flaw
  refine ⟨fd, FunD.ok FD sc_law_flaw (fun vs H Q E h => by obtain ⟨_, _, rfl, _⟩ := h; rfl) (fun cdv A outer s H vs Q E hr h => ?_), FD.bindsN fun _ _ _ _ _ _ us hl => match us, hl with | [_, _, _], _ => rfl, FD.kp⟩
  have nd := sc_law_flaw.nd
  have hu := hu_of hr
  refine ⟨_, PSs.nox (pss_one (ps_ret (pe_ix (ix_listK (K := K)) (pe_lst (pa_cons pe_int (pa_cons pe_int (pa_cons pe_int (pa_cons (pe_op op_pow pe_int pe_int) pa_nil))))) (pe_ix (ix_listK (K := K)) (pe_call F_law_row hr rfl T.g_law_row k_law_row b_law_row .nil pass0 (pa_cons (pv 0) (pa_cons (pv 1) (pa_cons (pe_lst (pa_cons (pe_op op_add (pv 2) pe_int) (pa_cons pe_int pa_nil))) pa_nil)))) pe_int (fun _ _ => rfl)) (fun _ _ => rfl)))), ?_⟩
  obtain ⟨a, sc, rfl, hS, q⟩ := h
  refine ev_pickG (xs := [1, 1, 7, 100000000000000000]) (n := 4) (Pz := fun x => 1 ≤ x ∧ x ≤ 100000000000000000) (by decide) rfl (el_is (el_lst (ea_cons ev_c (ea_cons ev_c (ea_cons ev_c (ea_cons (ev_op ev_c ev_c (rv_I ⟨by decide, by decide, by decide⟩)) ea_nil)))) (by show 4 ≤ 100000; decide)) rfl) (fun H1 e1 => ?_) fun w H1 hw e1 => q w H1 hw.1 hw.2 e1
  refine eg_opG (P := fun H v H2 => ∃ zs, NewL (zs.map V.int) H v H2 ∧ Drawn [6, 4] zs) (eg_call3L (ev_var rfl) (ev_var rfl) (xs := ([6, 4] : List Int).map V.int) (el_lst (ea_cons (ev_op (ev_var rfl) ev_c rv_I0) (ea_cons ev_c ea_nil)) (by decide)) (fun p H3 e3 h3 H4 e4 Q k E => ⟨a, p, 0, sc, [6, 4], rfl, ex_l (e1.trans (e3.trans e4)) hS, sq_of (e4 _ _ h3), by decide, by decide, by decide, by decide, k⟩) fun _ _ _ _ e p => ?_) ev_c fun H2 v H3 e2 e3 p H4 e4 Q k => ?_
  · obtain ⟨zs, h, hd⟩ := p
    exact ⟨zs, newL_back _ _ _ _ e h, hd⟩
  · obtain ⟨zs, ⟨sm, rfl, hsm, h3⟩, hD⟩ := p
    obtain ⟨z1, g1, l1, u1⟩ := hD.at_ (j := 1) (s := 4) rfl
    exact rv_ixL (sq_of h3) (at_int (j := 1) rfl g1) H4 e4 Q fun H5 e5 => k _ H5 e5 ⟨z1, rfl, l1, u1⟩
end Sv
namespace Sv
open PySem PySem.Spec PyProof.Rows L2 Evl TL
theorem ok_law_roll {P : Program} {w : World} {K : PySem.W.Frag} {mg : Str → Option Value} {base : Heap} {k : Nat} (T : Top K mg) (O_law_row : Ok P w K mg base k (He.ga K "_law_row") p_law_row (sp_law_row K)) :
    Ok P w K mg base (k + 1) (He.ga K "_law_roll") p_law_roll (sp_law_roll K) := by
  obtain ⟨fd_law_row, F_law_row, b_law_row, k_law_row⟩ := O_law_row
  obtain ⟨fd, FD⟩ := T.d_law_roll
  refine ⟨fd, FunD.ok FD sc_law_roll (fun vs H Q E h => by obtain ⟨_, _, _, _, rfl, _⟩ := h; rfl) (fun cdv A outer s H vs Q E hr h => ?_), FD.bindsN fun _ _ _ _ _ _ us hl => match us, hl with | [_, _, _, _], _ => rfl, FD.kp⟩
  have nd := sc_law_roll.nd
  have hu := hu_of hr
  refine ⟨_, PSs.nox (pss_cons (ps_set (i := 4) nd rfl (Or.inl rfl) (pe_call F_law_row hr rfl T.g_law_row k_law_row b_law_row .nil pass0 (pa_cons (pv 0) (pa_cons (pv 1) (pa_cons (pe_op op_cat (pe_lst (pa_cons (pe_op op_add (pv 2) pe_int) (pa_cons pe_int (pa_cons pe_int pa_nil)))) (pe_op op_rep (pe_lst (pa_cons pe_int (pa_cons pe_int pa_nil))) (pv 2))) pa_nil)))))
      (pss_cons (ps_set (i := 5) nd rfl (Or.inl rfl) (pe_op op_mul pe_int (pv 3)))
      (pss_cons (ps_if (pt_cmpR op_eq (pe_ix (ix_listK (K := K)) (pv 4) pe_int (fun _ _ => rfl)) pe_int (nomark _))
       (pss_one (ps_set (i := 5) nd rfl (Or.inl rfl) (pe_op op_pow pe_int pe_int))) pss_nil)
      (pss_cons (ps_set (i := 6) nd rfl (Or.inl rfl) (pe_lst pa_nil))
      (pss_cons (ps_for PassesOwn.never rfl (pi_range1 rfl T.f_range (pa_cons (pe_ix (ix_listK (K := K)) (pv 4) pe_int (fun _ _ => rfl)) pa_nil)) (pg_name (i := 7) nd rfl (Or.inl rfl))
       (pss_cons (ps_set (i := 8) nd rfl (Or.inl rfl) (pe_op op_add (pe_op op_mul pe_int (pv 7)) pe_int))
        (pss_cons (ps_set (i := 9) nd rfl (Or.inl rfl) pe_int)
        (pss_cons (ps_if (pt_cmpR op_lt (pe_ix (ix_listK (K := K)) (pv 4) (pv 8) (fun _ _ => rfl)) (pe_ix (ix_listK (K := K)) (pe_lst (pa_cons pe_int (pa_cons pe_int (pa_cons pe_int (pa_cons pe_int pa_nil))))) (pe_ix (ix_listK (K := K)) (pv 4) pe_int (fun _ _ => rfl)) (fun _ _ => rfl)) (nomark _))
         (pss_one (ps_set (i := 9) nd rfl (Or.inl rfl) (pe_ix (ix_listK (K := K)) (pe_lst (pa_cons (pv 3) (pa_cons (pv 3) (pa_cons (pe_op op_mul pe_int (pv 3)) (pa_cons (pe_op op_mul pe_int (pv 3)) (pa_cons (pv 5) pa_nil)))))) (pe_ix (ix_listK (K := K)) (pv 4) (pe_op op_add (pv 8) pe_int) (fun _ _ => rfl)) (fun _ _ => rfl)))) pss_nil)
        (pss_one (ps_expr (pe_bmK (K := K) PySem.F.plainAttrs_list PySem.F.slot_list_append PySem.F.type_list_append mt_append (pv 6) (pa_cons (pv 9) pa_nil))))))))
      (pss_one (ps_ret (pv 6)))))))), ?_⟩
  obtain ⟨a, p, f, sc, rfl, hS, p0, p1, f0, f1, q⟩ := h
  refine q_asgG (eg_call3L (P := fun H v H2 => ∃ zs, NewL (zs.map V.int) H v H2 ∧ Drawn rollSz zs) (ev_var rfl) (ev_var rfl) (el_is (ys := rollSz.map V.int) (el_catNN (el_lst (ea_cons (ev_op (ev_var rfl) ev_c rv_I0) (ea_cons ev_c (ea_cons ev_c ea_nil))) (by decide)) (el_repN (el_lst (ea_cons ev_c (ea_cons ev_c ea_nil)) (by decide)) (ev_var rfl) (by decide) (by decide)) (by decide)) rfl) (fun pz H3 e3 h3 H4 e4 Q k E => ⟨a, pz, p, sc, rollSz, rfl, ex_l (e3.trans e4) hS, sq_of (e4 _ _ h3), p0, p1, by decide, by decide, k⟩) fun _ _ _ _ e p => ?_) fun v H3 e3 p3 => ?_
  · obtain ⟨zs, h, hd⟩ := p
    exact ⟨zs, newL_back _ _ _ _ e h, hd⟩
  obtain ⟨zs, ⟨sm, rfl, hsm, h3⟩, hD⟩ := p3
  obtain ⟨z0, g0, l0, u0⟩ := hD.at_ (j := 0) (s := 21) rfl
  obtain ⟨z1, g1, l1, u1⟩ := hD.at_ (j := 1) (s := 4) rfl
  obtain ⟨z2, g2, l2, u2⟩ := hD.at_ (j := 2) (s := 3) rfl
  have ixM : ∀ {H4 : Hp} {σ' : L2.St} {ta tb : TE} {j : Nat} {y z : Int}, Ex H3 H4 → Ev ta σ' H4 (.ref sm) → Ev tb σ' H4 (.int y) → y = (j : Int) → zs[j]? = some z → Ev (tOp (rIxL K) ta tb) σ' H4 (.int z) := fun e h1 h2 ey hj => ev_op h1 h2 (rv_ixL (sq_of (e _ _ h3)) (at_int ey hj))
  refine q_asg (v := .int (9 * f)) (ev_op ev_c (ev_var rfl) (rv_I (cmul (by omega) (by omega)))) fun H4 e4 => ?_
  obtain ⟨gr, hgr⟩ : ∃ gr, gr = if z2 = 0 then 1000000000000000000 else 9 * f := ⟨_, rfl⟩
  have hgrb : 0 ≤ gr ∧ gr ≤ 1000000000000000000 := by
    rw [hgr]
    split <;> omega
  refine q_ifAsg (b := decide (z2 = 0)) (v := .int gr) (et_is (et_test (ev_op (ixM e4 (ev_var rfl) ev_c (j := 2) rfl g2) ev_c (rv_eq rfl))) (by simp)) (fun hb => ev_is (ev_op ev_c ev_c (rv_I ⟨by decide, by decide, by decide⟩)) (by rw [hgr, if_pos (of_decide_eq_true hb)]; rfl)) (fun hb => by rw [hgr, if_neg (of_decide_eq_false hb)]; rfl) fun H5 e5 => ?_
  refine q_asgL (el_lst ea_nil (by decide)) fun l H6 hl6 e6 h6 => ?_
  have e36 := (e4.trans e5).trans e6
  have e06 := e3.trans e36
  have hlH : H l = none := fresh_back (e3.trans (e4.trans e5)) hl6
  have nls : sm ≠ l := ne_of_none ((e4.trans e5) _ _ h3) hl6
  refine q_forR1 (n := z0) (ea_cons (ixM e36 (ev_var rfl) ev_c (j := 0) rfl g0) ea_nil) ⟨by omega, by omega⟩ (fun i σ' H' => ∃ (ns : List Int) (w7 w8 w9 : Option V), σ' = [some (.ref a), some (.int p), some (.int 20), some (.int f), some (.ref sm), some (.int gr), some (.ref l), w7, w8, w9] ∧ Ex H H' ∧ H' sm = some (.lst (zs.map V.int)) ∧ H' l = some (.lst (ns.map V.int)) ∧ ns.length = i ∧ ∀ c ∈ ns, 0 ≤ c ∧ c ≤ 1000000000000000000) ?_ ?_ ?_
  · exact fun H7 e7 => ⟨[], none, none, none, rfl, e06.trans e7, (e36.trans e7) _ _ h3, e7 _ _ h6, rfl, by simp⟩
  · rintro i σ' H7 hi ⟨ns, w7, w8, w9, rfl, e7, s7, r7, hln, hks⟩
    have hi5 : i < 20 := by omega
    obtain ⟨t1, t2⟩ := rollSz_k i hi5
    obtain ⟨x1, gx1, lx1, ux1⟩ := hD.at_ t1
    obtain ⟨x2, gx2, lx2, ux2⟩ := hD.at_ t2
    have ix7 : ∀ {H8 : Hp} {σ' : L2.St} {ta tb : TE} {j : Nat} {y z : Int}, Ex H7 H8 → Ev ta σ' H8 (.ref sm) → Ev tb σ' H8 (.int y) → y = (j : Int) → zs[j]? = some z → Ev (tOp (rIxL K) ta tb) σ' H8 (.int z) := fun e h1 h2 ey hj => ev_op h1 h2 (rv_ixL (sq_of (e _ _ s7)) (at_int ey hj))
    refine q_asg (v := .int (2 * (i : Int) + 3)) (ev_op (ev_op ev_c (ev_var rfl) (rv_I (cmul (by omega) (by omega)))) ev_c rv_I0) fun H8 e8 => ?_
    refine q_asg (v := .int 0) ev_c fun H9 e9 => ?_
    have e79 := e8.trans e9
    obtain ⟨y1, hy1, _⟩ := pick (xs := [0, 1, 3, 6]) (Pz := fun x => True) (by decide) l1 u1
    obtain ⟨y2, hy2, y2a, y2b⟩ := pick (xs := [f, f, 2 * f, 3 * f, gr]) (Pz := fun x => 0 ≤ x ∧ x ≤ 1000000000000000000) (by intro x hx; simp at hx; omega) lx2 ux2
    obtain ⟨c, hc⟩ : ∃ c, c = if x1 < y1 then y2 else 0 := ⟨_, rfl⟩
    have hcb : 0 ≤ c ∧ c ≤ 1000000000000000000 := by
      rw [hc]
      split <;> omega
    refine q_ifAsg (b := decide (x1 < y1)) (v := .int c) (et_test (ev_op (ix7 e79 (ev_var rfl) (ev_var rfl) (j := 2 * i + 3) (by omega) gx1) (ev_pick (xs := [0, 1, 3, 6]) (el_lst (ea_cons ev_c (ea_cons ev_c (ea_cons ev_c (ea_cons ev_c ea_nil)))) (by decide)) (ix7 e79 (ev_var rfl) ev_c (j := 1) rfl g1) hy1) rv_I0)) (fun hb => ev_is (ev_pick (xs := [f, f, 2 * f, 3 * f, gr]) (el_lst (ea_cons (ev_var rfl) (ea_cons (ev_var rfl) (ea_cons (ev_op ev_c (ev_var rfl) (rv_I (cmul (by omega) (by omega)))) (ea_cons (ev_op ev_c (ev_var rfl) (rv_I (cmul (by omega) (by omega)))) (ea_cons (ev_var rfl) ea_nil))))) (by show 5 ≤ 100000; decide)) (ix7 e79 (ev_var rfl) (ev_op (ev_var rfl) ev_c rv_I0) (j := 2 * i + 4) (by omega) gx2) hy2) (by rw [hc, if_pos (of_decide_eq_true hb)])) (fun hb => by rw [hc, if_neg (of_decide_eq_false hb)]; rfl) fun HA eA => ?_
    have e7A := e79.trans eA
    refine s_appV (v := .int c) (e7A _ _ r7) (ev_var rfl) (ev_var rfl) (by rw [List.length_map]; omega) fun HB bB hB => ?_
    refine ⟨ns ++ [c], _, _, _, rfl, fun x o hx => bB _ _ (e7A _ _ (e7 _ _ hx)) (ne_of_none hx hlH), bB _ _ (e7A _ _ s7) nls, by rw [List.map_append]; exact hB, by rw [List.length_append]; simp; omega, fun k hk => ?_⟩
    rcases List.mem_append.mp hk with hk | hk
    · exact hks k hk
    · rw [List.mem_singleton.mp hk]
      exact hcb
  · rintro σ' H7 ⟨ns, w7, w8, w9, rfl, e7, s7, r7, hln, hks⟩
    exact s_ret (ev_var rfl) fun H8 e8 => q _ _ (e7.trans e8) ⟨ns, ⟨l, rfl, hlH, e8 _ _ r7⟩, ⟨by omega, hks⟩, by omega⟩
end Sv
namespace Sv
open PySem PySem.Spec PyProof.Rows L2 Evl TL
theorem ok_law_table {P : Program} {w : World} {K : PySem.W.Frag} {mg : Str → Option Value} {base : Heap} {k : Nat} (T : Top K mg) (O_law_row : Ok P w K mg base k (He.ga K "_law_row") p_law_row (sp_law_row K)) :
    Ok P w K mg base (k + 1) (He.ga K "_law_table") p_law_table (sp_law_table K) := by
  obtain ⟨fd_law_row, F_law_row, b_law_row, k_law_row⟩ := O_law_row
  obtain ⟨fd, FD⟩ := T.d_law_table
  refine ⟨fd, FunD.ok FD sc_law_table (fun vs H Q E h => by obtain ⟨_, _, rfl, _⟩ := h; rfl) (fun cdv A outer s H vs Q E hr h => ?_), FD.bindsN fun _ _ _ _ _ _ us hl => match us, hl with | [_, _, _], _ => rfl, FD.kp⟩
  have nd := sc_law_table.nd
  have hu := hu_of hr
  refine ⟨_, PSs.nox (pss_cons (ps_set (i := 3) nd rfl (Or.inl rfl) (pe_lst (pa_cons pe_str (pa_cons pe_str (pa_cons pe_str (pa_cons pe_str (pa_cons pe_str (pa_cons pe_str (pa_cons pe_str (pa_cons pe_str (pa_cons pe_str (pa_cons pe_str pa_nil))))))))))))
      (pss_cons (ps_set (i := 3) nd rfl (Or.inl rfl) (pe_op op_cat (pv 3) (pe_lst (pa_cons pe_str (pa_cons pe_str (pa_cons pe_str (pa_cons pe_str (pa_cons pe_str (pa_cons pe_str pa_nil)))))))))
      (pss_cons (ps_set (i := 4) nd rfl (Or.inl rfl) (pe_call F_law_row hr rfl T.g_law_row k_law_row b_law_row .nil pass0 (pa_cons (pv 0) (pa_cons (pv 1) (pa_cons (pe_op op_cat (pe_lst (pa_cons (pe_op op_add (pv 2) pe_int) (pa_cons pe_int (pa_cons pe_int (pa_cons pe_int (pa_cons pe_int (pa_cons pe_int pa_nil))))))) (pe_op op_rep (pe_lst (pa_cons pe_int (pa_cons pe_int (pa_cons pe_int pa_nil)))) (pv 2))) pa_nil)))))
      (pss_cons (ps_set (i := 5) nd rfl (Or.inl rfl) (pe_ix (ix_listK (K := K)) (pe_lst (pa_cons pe_int (pa_cons pe_int (pa_cons pe_int (pa_cons (pe_op op_pow pe_int pe_int) pa_nil))))) (pe_ix (ix_listK (K := K)) (pv 4) pe_int (fun _ _ => rfl)) (fun _ _ => rfl)))
      (pss_cons (ps_set (i := 6) nd rfl (Or.inl rfl) (pe_ix (ix_listK (K := K)) (pe_lst (pa_cons pe_int (pa_cons pe_int (pa_cons (pe_op op_pow pe_int pe_int) (pa_cons (pe_op op_mul pe_int (pe_op op_pow pe_int pe_int)) pa_nil))))) (pe_ix (ix_listK (K := K)) (pv 4) pe_int (fun _ _ => rfl)) (fun _ _ => rfl)))
      (pss_cons (ps_set (i := 7) nd rfl (Or.inl rfl) (pe_lst pa_nil))
      (pss_cons (ps_for PassesOwn.never rfl (pi_range1 rfl T.f_range (pa_cons (pe_ix (ix_listK (K := K)) (pv 4) pe_int (fun _ _ => rfl)) pa_nil)) (pg_name (i := 8) nd rfl (Or.inl rfl))
       (pss_cons (ps_set (i := 9) nd rfl (Or.inl rfl) (pe_op op_add (pe_op op_mul pe_int (pv 8)) pe_int))
        (pss_cons (ps_set (i := 10) nd rfl (Or.inl rfl) (pe_ix (ix_listK (K := K)) (pe_lst (pa_cons pe_int (pa_cons pe_int (pa_cons pe_int (pa_cons pe_int (pa_cons pe_int (pa_cons pe_int (pa_cons pe_int (pa_cons pe_int (pa_cons pe_int (pa_cons pe_int (pa_cons (pe_ix (ix_listK (K := K)) (pe_lst (pa_cons pe_int (pa_cons pe_int pa_nil))) (pe_op op_mod (pv 8) pe_int) (fun _ _ => rfl)) pa_nil)))))))))))) (pe_ix (ix_listK (K := K)) (pv 4) (pv 9) (fun _ _ => rfl)) (fun _ _ => rfl)))
        (pss_cons (ps_set (i := 11) nd rfl (Or.inl rfl) (pe_op op_add pe_int (pe_ix (ix_listK (K := K)) (pv 4) (pe_op op_add (pv 9) pe_int) (fun _ _ => rfl))))
        (pss_cons (ps_if (pt_cmpR op_eq (pe_ix (ix_listK (K := K)) (pv 4) pe_int (fun _ _ => rfl)) pe_int (nomark _))
         (pss_one (ps_set (i := 11) nd rfl (Or.inl rfl) (pe_op op_add (pe_op op_mul pe_int (pv 10)) (pe_op op_mod (pe_ix (ix_listK (K := K)) (pv 4) (pe_op op_add (pv 9) pe_int) (fun _ _ => rfl)) pe_int)))) pss_nil)
        (pss_cons (ps_if (pt_cmpR op_eq (pe_ix (ix_listK (K := K)) (pv 4) pe_int (fun _ _ => rfl)) pe_int (nomark _))
         (pss_one (ps_set (i := 11) nd rfl (Or.inl rfl) (pe_op op_add pe_int (pe_op op_mod (pe_ix (ix_listK (K := K)) (pv 4) (pe_op op_add (pv 9) pe_int) (fun _ _ => rfl)) pe_int)))) pss_nil)
        (pss_cons (ps_if (pt_cmpR op_eq (pe_ix (ix_listK (K := K)) (pv 4) pe_int (fun _ _ => rfl)) pe_int (nomark _))
         (pss_one (ps_set (i := 11) nd rfl (Or.inl rfl) (pv 10))) pss_nil)
        (pss_cons (ps_set (i := 12) nd rfl (Or.inl rfl) (pe_callB (call_min2 rfl) (by rfl) T.f_min (by decide +kernel) (pa_cons (pe_op op_mul (pe_ix (ix_listK (K := K)) (pe_lst (pa_cons pe_int (pa_cons pe_int (pa_cons pe_int (pa_cons pe_int (pa_cons pe_int (pa_cons pe_int pa_nil))))))) (pe_ix (ix_listK (K := K)) (pv 4) (pe_op op_add (pv 9) pe_int) (fun _ _ => rfl)) (fun _ _ => rfl)) (pv 5)) (pa_cons (pe_op op_sub (pe_op op_pow pe_int pe_int) pe_int) pa_nil))))
        (pss_cons (ps_set (i := 13) nd rfl (Or.inl rfl) (pe_ix (ix_listK (K := K)) (pv 3) (pe_op op_mod (pe_op op_add (pe_ix (ix_listK (K := K)) (pv 4) pe_int (fun _ _ => rfl)) (pe_op op_mul (pe_op op_add (pe_op op_mul pe_int (pe_ix (ix_listK (K := K)) (pv 4) pe_int (fun _ _ => rfl))) pe_int) (pv 8))) pe_int) (fun _ _ => rfl)))
        (pss_one (ps_expr (pe_bmK (K := K) PySem.F.plainAttrs_list PySem.F.slot_list_append PySem.F.type_list_append mt_append (pv 7) (pa_cons (pe_tup (pa_cons (pv 13) (pa_cons (pv 10) (pa_cons (pe_callB (call_min2 rfl) (by rfl) T.f_min (by decide +kernel) (pa_cons (pe_op op_mul (pv 11) (pv 6)) (pa_cons (pe_op op_pow pe_int pe_int) pa_nil))) (pa_cons (pv 12) pa_nil))))) pa_nil)))))))))))))
      (pss_one (ps_ret (pv 7)))))))))), ?_⟩
  obtain ⟨a, sc, rfl, hS, q⟩ := h
  refine q_asgL (el_lst (ea_cons ev_c (ea_cons ev_c (ea_cons ev_c (ea_cons ev_c (ea_cons ev_c (ea_cons ev_c (ea_cons ev_c (ea_cons ev_c (ea_cons ev_c (ea_cons ev_c ea_nil)))))))))) (by decide)) fun p1 H1 hp1 e1 h1 => ?_
  refine q_asgL (xs := poolL.map V.str) (el_is (el_catN (ev_var rfl) (el_lst (ea_cons ev_c (ea_cons ev_c (ea_cons ev_c (ea_cons ev_c (ea_cons ev_c (ea_cons ev_c ea_nil)))))) (by decide)) h1 (by decide)) rfl) fun pl H2 hp2 e2 h2 => ?_
  have e02 := e1.trans e2
  refine q_asgG (eg_call3L (P := fun H v H2 => ∃ zs, NewL (zs.map V.int) H v H2 ∧ Drawn tabSz zs) (ev_var rfl) (ev_var rfl) (el_is (ys := tabSz.map V.int) (el_catNN (el_lst (ea_cons (ev_op (ev_var rfl) ev_c rv_I0) (ea_cons ev_c (ea_cons ev_c (ea_cons ev_c (ea_cons ev_c (ea_cons ev_c ea_nil)))))) (by decide)) (el_repN (el_lst (ea_cons ev_c (ea_cons ev_c (ea_cons ev_c ea_nil))) (by decide)) (ev_var rfl) (by decide) (by decide)) (by decide)) rfl) (fun p H3 e3 h3 H4 e4 Q k E => ⟨a, p, 0, sc, tabSz, rfl, ex_l (e02.trans (e3.trans e4)) hS, sq_of (e4 _ _ h3), by decide, by decide, by decide, by decide, k⟩) fun _ _ _ _ e p => ?_) fun v H3 e3 p3 => ?_
  · obtain ⟨zs, h, hd⟩ := p
    exact ⟨zs, newL_back _ _ _ _ e h, hd⟩
  obtain ⟨zs, ⟨sm, rfl, hsm, h3⟩, hD⟩ := p3
  have e03 := e02.trans e3
  obtain ⟨z0, g0, l0, u0⟩ := hD.at_ (j := 0) (s := 6) rfl
  obtain ⟨z1, g1, l1, u1⟩ := hD.at_ (j := 1) (s := 4) rfl
  obtain ⟨z2, g2, l2, u2⟩ := hD.at_ (j := 2) (s := 4) rfl
  obtain ⟨z3, g3, l3, u3⟩ := hD.at_ (j := 3) (s := 4) rfl
  obtain ⟨z4, g4, l4, u4⟩ := hD.at_ (j := 4) (s := 16) rfl
  obtain ⟨z5, g5, l5, u5⟩ := hD.at_ (j := 5) (s := 4) rfl
  have ixM : ∀ {H4 : Hp} {σ' : L2.St} {ta tb : TE} {j : Nat} {y z : Int}, Ex H3 H4 → Ev ta σ' H4 (.ref sm) → Ev tb σ' H4 (.int y) → y = (j : Int) → zs[j]? = some z → Ev (tOp (rIxL K) ta tb) σ' H4 (.int z) := fun e h1 h2 ey hj => ev_op h1 h2 (rv_ixL (sq_of (e _ _ h3)) (at_int ey hj))
  obtain ⟨fl, hfl, f0, f1⟩ := pick (xs := [1, 1, 7, 100000000000000000]) (Pz := fun x => 1 ≤ x ∧ x ≤ 100000000000000000) (by decide) l1 u1
  refine q_asg (v := .int fl) (ev_pick (xs := [1, 1, 7, 100000000000000000]) (el_is (el_lst (ea_cons ev_c (ea_cons ev_c (ea_cons ev_c (ea_cons (ev_op ev_c ev_c (rv_I ⟨by decide, by decide, by decide⟩)) ea_nil)))) (by show 4 ≤ 100000; decide)) rfl) (ixM (Ex.refl _) (ev_var rfl) ev_c (j := 1) rfl g1) hfl) fun H4 e4 => ?_
  obtain ⟨gn, hgn, gn0, gn1⟩ := pick (xs := [1, 1, 1000000, 25000000000000000]) (Pz := fun x => 1 ≤ x ∧ x ≤ 25000000000000000) (by decide) l2 u2
  refine q_asg (v := .int gn) (ev_pick (xs := [1, 1, 1000000, 25000000000000000]) (el_is (el_lst (ea_cons ev_c (ea_cons ev_c (ea_cons (ev_op ev_c ev_c (rv_I ⟨by decide, by decide, by decide⟩)) (ea_cons (ev_op ev_c (ev_op ev_c ev_c (rv_I ⟨by decide, by decide, by decide⟩)) (rv_I (cmul (by decide) (by decide)))) ea_nil)))) (by show 4 ≤ 100000; decide)) rfl) (ixM e4 (ev_var rfl) ev_c (j := 2) rfl g2) hgn) fun H5 e5 => ?_
  refine q_asgL (el_lst ea_nil (by decide)) fun l H6 hl6 e6 h6 => ?_
  have e36 := (e4.trans e5).trans e6
  have e06 := e03.trans e36
  have hlH : H l = none := fresh_back (e03.trans (e4.trans e5)) hl6
  have nls : sm ≠ l := ne_of_none ((e4.trans e5) _ _ h3) hl6
  have nlp : pl ≠ l := ne_of_none (((e3.trans e4).trans e5) _ _ h2) hl6
  refine q_forR1 (n := z0) (ea_cons (ixM e36 (ev_var rfl) ev_c (j := 0) rfl g0) ea_nil) ⟨by omega, by omega⟩ (fun i σ' H' => ∃ (tab : List Kd) (w8 w9 w10 w11 w12 w13 : Option V), σ' = [some (.ref a), some (.int 0), some (.int 5), some (.ref pl), some (.ref sm), some (.int fl), some (.int gn), some (.ref l), w8, w9, w10, w11, w12, w13] ∧ Ex H H' ∧ H' sm = some (.lst (zs.map V.int)) ∧ H' pl = some (.lst (poolL.map V.str)) ∧ RowsN K H' l (tab.map kindV) ∧ tab.length = i ∧ (tab.map fun k => k.name) = (List.range i).map (nameAt z4 z5) ∧ ∀ k ∈ tab, kindOk k) ?_ ?_ ?_
  · exact fun H7 e7 => ⟨[], none, none, none, none, none, none, rfl, e06.trans e7, (e36.trans e7) _ _ h3, (e3.trans (e36.trans e7)) _ _ h2, ⟨[], e7 _ _ h6, .nil⟩, rfl, rfl, by simp⟩
  · rintro i σ' H7 hi ⟨tab, w8, w9, w10, w11, w12, w13, rfl, e7, s7, q7, R7, hln, hnm, hks⟩
    have hi5 : i < 5 := by omega
    obtain ⟨t1, t2, t3⟩ := tabSz_k i hi5
    obtain ⟨x1, gx1, lx1, ux1⟩ := hD.at_ t1
    obtain ⟨x2, gx2, lx2, ux2⟩ := hD.at_ t2
    obtain ⟨x3, gx3, lx3, ux3⟩ := hD.at_ t3
    have ix7 : ∀ {H8 : Hp} {σ' : L2.St} {ta tb : TE} {j : Nat} {y z : Int}, Ex H7 H8 → Ev ta σ' H8 (.ref sm) → Ev tb σ' H8 (.int y) → y = (j : Int) → zs[j]? = some z → Ev (tOp (rIxL K) ta tb) σ' H8 (.int z) := fun e h1 h2 ey hj => ev_op h1 h2 (rv_ixL (sq_of (e _ _ s7)) (at_int ey hj))
    refine q_asg (v := .int (3 * (i : Int) + 6)) (ev_op (ev_op ev_c (ev_var rfl) (rv_I (cmul (by omega) (by omega)))) ev_c rv_I0) fun H8 e8 => ?_
    obtain ⟨y1, hy1, y1a, y1b⟩ := pick (xs := [150, 200]) (Pz := fun x => 1 ≤ x ∧ x ≤ 200) (by decide) (Int.emod_nonneg (i : Int) (show (2 : Int) ≠ 0 by decide)) (Int.emod_lt_of_pos (i : Int) (show (0 : Int) < 2 by decide))
    obtain ⟨wd, hwd, wd0, wd1⟩ := pick (xs := [1, 2, 3, 4, 5, 6, 2, 3, 11, 40, y1]) (Pz := fun x => 1 ≤ x ∧ x ≤ 200) (by intro x hx; simp at hx; omega) lx1 ux1
    refine q_asg (v := .int wd) (ev_pick (xs := [1, 2, 3, 4, 5, 6, 2, 3, 11, 40, y1]) (el_lst (ea_cons ev_c (ea_cons ev_c (ea_cons ev_c (ea_cons ev_c (ea_cons ev_c (ea_cons ev_c (ea_cons ev_c (ea_cons ev_c (ea_cons ev_c (ea_cons ev_c (ea_cons (ev_pick (xs := [150, 200]) (el_lst (ea_cons ev_c (ea_cons ev_c ea_nil)) (by decide)) (ev_op (ev_var rfl) ev_c (rv_I (by decide))) hy1) ea_nil))))))))))) (by show 11 ≤ 100000; decide)) (ix7 e8 (ev_var rfl) (ev_var rfl) (j := 3 * i + 6) (by omega) gx1) hwd) fun H9 e9 => ?_
    have e79 := e8.trans e9
    refine q_asg (v := .int (1 + x2)) (ev_op ev_c (ix7 e79 (ev_var rfl) (ev_op (ev_var rfl) ev_c rv_I0) (j := 3 * i + 7) (by omega) gx2) rv_I0) fun HA eA => ?_
    have e7A := e79.trans eA
    obtain ⟨wo1, hwo1⟩ : ∃ wo1, wo1 = if z3 = 1 then 3 * wd + x2 % 4 else 1 + x2 := ⟨_, rfl⟩
    refine q_ifAsg (b := decide (z3 = 1)) (v := .int wo1) (et_is (et_test (ev_op (ix7 e7A (ev_var rfl) ev_c (j := 3) rfl g3) ev_c (rv_eq rfl))) (by simp)) (fun hb => ev_is (ev_op (ev_op ev_c (ev_var rfl) (rv_I (cmul (by omega) (by omega)))) (ev_op (ix7 e7A (ev_var rfl) (ev_op (ev_var rfl) ev_c rv_I0) (j := 3 * i + 7) (by omega) gx2) ev_c (rv_I (by decide))) rv_I0) (by rw [hwo1, if_pos (of_decide_eq_true hb)])) (fun hb => by rw [hwo1, if_neg (of_decide_eq_false hb)]; rfl) fun HB eB => ?_
    have e7B := e7A.trans eB
    obtain ⟨wo2, hwo2⟩ : ∃ wo2, wo2 = if z3 = 2 then 1 + x2 % 3 else wo1 := ⟨_, rfl⟩
    refine q_ifAsg (b := decide (z3 = 2)) (v := .int wo2) (et_is (et_test (ev_op (ix7 e7B (ev_var rfl) ev_c (j := 3) rfl g3) ev_c (rv_eq rfl))) (by simp)) (fun hb => ev_is (ev_op ev_c (ev_op (ix7 e7B (ev_var rfl) (ev_op (ev_var rfl) ev_c rv_I0) (j := 3 * i + 7) (by omega) gx2) ev_c (rv_I (by decide))) rv_I0) (by rw [hwo2, if_pos (of_decide_eq_true hb)])) (fun hb => by rw [hwo2, if_neg (of_decide_eq_false hb)]; rfl) fun HC eC => ?_
    have e7C := e7B.trans eC
    obtain ⟨wo, hwo⟩ : ∃ wo, wo = if z3 = 3 then wd else wo2 := ⟨_, rfl⟩
    refine q_ifAsg (b := decide (z3 = 3)) (v := .int wo) (et_is (et_test (ev_op (ix7 e7C (ev_var rfl) ev_c (j := 3) rfl g3) ev_c (rv_eq rfl))) (by simp)) (fun hb => ev_is (ev_var rfl) (by rw [hwo, if_pos (of_decide_eq_true hb)])) (fun hb => by rw [hwo, if_neg (of_decide_eq_false hb)]; rfl) fun HD eD => ?_
    have e7D := e7C.trans eD
    have hwob : 1 ≤ wo ∧ wo ≤ 1000 := by
      have m4 := Int.emod_nonneg x2 (show (4 : Int) ≠ 0 by decide)
      have m4' := Int.emod_lt_of_pos x2 (show (0 : Int) < 4 by decide)
      have m3 := Int.emod_nonneg x2 (show (3 : Int) ≠ 0 by decide)
      have m3' := Int.emod_lt_of_pos x2 (show (0 : Int) < 3 by decide)
      rw [hwo, hwo2, hwo1]
      split
      · omega
      · split
        · omega
        · split <;> omega
    obtain ⟨y3, hy3, y3a, y3b⟩ := pick (xs := [0, 0, 1, 2, 3, 12]) (Pz := fun x => 0 ≤ x ∧ x ≤ 12) (by decide) lx3 ux3
    obtain ⟨al, hal⟩ : ∃ al, al = if 999999999999999999 < y3 * fl then 999999999999999999 else y3 * fl := ⟨_, rfl⟩
    refine q_asg (v := .int al) (ev_is (ev_min2 (ev_op (ev_pick (xs := [0, 0, 1, 2, 3, 12]) (el_lst (ea_cons ev_c (ea_cons ev_c (ea_cons ev_c (ea_cons ev_c (ea_cons ev_c (ea_cons ev_c ea_nil)))))) (by decide)) (ix7 e7D (ev_var rfl) (ev_op (ev_var rfl) ev_c rv_I0) (j := 3 * i + 8) (by omega) gx3) hy3) (ev_var rfl) (rv_I (cmul (by omega) (by omega)))) (ev_is (w := .int 999999999999999999) (ev_op (ev_op ev_c ev_c (rv_I ⟨by decide, by decide, by decide⟩)) ev_c rv_I0) rfl)) (by rw [hal])) fun HE eE => ?_
    have e7E := e7D.trans eE
    have hn0 : 0 ≤ y3 * fl := Int.mul_nonneg y3a (by omega)
    have halb : 0 ≤ al ∧ al < 1000000000000000000 := by
      rw [hal]
      split <;> omega
    refine q_asg (v := .str (nameAt z4 z5 i)) (ev_op (ev_var rfl) (ev_op (ev_op (ix7 e7E (ev_var rfl) ev_c (j := 4) rfl g4) (ev_op (ev_op (ev_op ev_c (ix7 e7E (ev_var rfl) ev_c (j := 5) rfl g5) (rv_I (cmul (by omega) (by omega)))) ev_c rv_I0) (ev_var rfl) (rv_I (cmulR (by omega) (by omega)))) rv_I0) ev_c (rv_I (by decide))) (rv_ixL (sq_of (e7E _ _ q7)) (at_int (j := poolIx z4 z5 (i : Int)) ?_ (nameAt_get z4 z5 i)))) fun HF eF => ?_
    · show (z4 + (2 * z5 + 1) * (i : Int)) % 16 = _
      unfold poolIx
      rw [Int.toNat_of_nonneg (Int.emod_nonneg _ (by decide))]
    have e7F := e7E.trans eF
    obtain ⟨vw, hvw⟩ : ∃ vw, vw = if 1000000000000000000 < wo * gn then 1000000000000000000 else wo * gn := ⟨_, rfl⟩
    have hv1 : 1 ≤ wo * gn := by
      have := Int.mul_le_mul (show 1 ≤ wo by omega) (show 1 ≤ gn by omega) (by decide) (by omega)
      omega
    have hvwb : 1 ≤ vw ∧ vw ≤ 1000000000000000000 := by
      rw [hvw]
      split <;> omega
    have hkd : kindV ⟨nameAt z4 z5 i, wd.toNat, vw, al⟩ = [.str (nameAt z4 z5 i), .int wd, .int vw, .int al] := by
      unfold kindV
      rw [Int.toNat_of_nonneg (by omega)]
    refine s_appR (row := kindV ⟨nameAt z4 z5 i, wd.toNat, vw, al⟩) (R7.mono e7F) (ev_var rfl) (by rw [hkd]; exact eu_tup (ea_cons (ev_var rfl) (ea_cons (ev_var rfl) (ea_cons (ev_is (ev_min2 (ev_op (ev_var rfl) (ev_var rfl) (rv_I (cmul (by omega) (by omega)))) (ev_is (w := .int 1000000000000000000) (ev_op ev_c ev_c (rv_I ⟨by decide, by decide, by decide⟩)) rfl)) (by rw [hvw])) (ea_cons (ev_var rfl) ea_nil)))) (by show 4 ≤ 100000; decide)) (by rw [List.length_map]; omega) fun HG bG RG => ?_
    refine ⟨tab ++ [⟨nameAt z4 z5 i, wd.toNat, vw, al⟩], _, _, _, _, _, _, rfl, fun x o hx => bG _ _ (e7F _ _ (e7 _ _ hx)) (ne_of_none hx hlH), bG _ _ (e7F _ _ s7) nls, bG _ _ (e7F _ _ q7) nlp, by rw [List.map_append]; exact RG, by rw [List.length_append]; simp; omega, ?_, fun k hk => ?_⟩
    · rw [List.map_append, hnm, List.range_succ, List.map_append]
      rfl
    · rcases List.mem_append.mp hk with hk | hk
      · exact hks k hk
      · rw [List.mem_singleton.mp hk]
        exact ⟨nameAt_ok z4 z5 i, by show 1 ≤ wd.toNat; omega, by show wd.toNat ≤ 200; omega, hvwb.1, hvwb.2, halb.1, halb.2⟩
  · rintro σ' H7 ⟨tab, w8, w9, w10, w11, w12, w13, rfl, e7, s7, q7, R7, hln, hnm, hks⟩
    refine s_ret (ev_var rfl) fun H8 e8 => q _ _ (e7.trans e8) ⟨tab, ⟨l, rfl, hlH, R7.mono e8⟩, by omega, hks, ?_⟩
    rw [hnm]
    exact names_nd ⟨l5, u5⟩ (by omega)
end Sv
namespace Sv
open PySem PySem.Spec PyProof.Rows L2 Evl TL
theorem ok_law_drawn {P : Program} {w : World} {K : PySem.W.Frag} {mg : Str → Option Value} {base : Heap} {k : Nat} (T : Top K mg) (O_law_flaw : Ok P w K mg base k (He.ga K "_law_flaw") p_law_flaw (sp_law_flaw K)) (O_law_roll : Ok P w K mg base k (He.ga K "_law_roll") p_law_roll (sp_law_roll K)) (O_law_table : Ok P w K mg base k (He.ga K "_law_table") p_law_table (sp_law_table K)) :
    Ok P w K mg base (k + 1) (He.ga K "_law_drawn") p_law_drawn (sp_law_drawn K) := by
  obtain ⟨fd_law_flaw, F_law_flaw, b_law_flaw, k_law_flaw⟩ := O_law_flaw
  obtain ⟨fd_law_roll, F_law_roll, b_law_roll, k_law_roll⟩ := O_law_roll
  obtain ⟨fd_law_table, F_law_table, b_law_table, k_law_table⟩ := O_law_table
  obtain ⟨fd, FD⟩ := T.d_law_drawn
  refine ⟨fd, FunD.ok FD sc_law_drawn (fun vs H Q E h => by obtain ⟨_, _, rfl, _⟩ := h; rfl) (fun cdv A outer s H vs Q E hr h => ?_), FD.bindsN fun _ _ _ _ _ _ us hl => match us, hl with | [_, _, _, _], _ => rfl, FD.kp⟩
  have nd := sc_law_drawn.nd
  have hu := hu_of hr
  refine ⟨_, PSs.nox (pss_cons (ps_set (i := 4) nd rfl (Or.inl rfl) (pe_call F_law_flaw hr rfl T.g_law_flaw k_law_flaw b_law_flaw .nil pass0 (pa_cons (pv 0) (pa_cons (pv 1) (pa_cons (pv 3) pa_nil)))))
      (pss_one (ps_ret (pe_tup (pa_cons (pe_call F_law_roll hr rfl T.g_law_roll k_law_roll b_law_roll .nil pass0 (pa_cons (pv 0) (pa_cons (pe_op op_add (pv 1) pe_int) (pa_cons (pv 2) (pa_cons (pv 4) pa_nil))))) (pa_cons (pe_call F_law_table hr rfl T.g_law_table k_law_table b_law_table .nil pass0 (pa_cons (pv 0) (pa_cons (pv 1) (pa_cons (pv 3) pa_nil)))) pa_nil)))))), ?_⟩
  obtain ⟨a, sc, rfl, hS, q⟩ := h
  refine q_asgG (eg_callZ (Pz := fun z => 1 ≤ z ∧ z ≤ 100000000000000000) (ea_cons (ev_var rfl) (ea_cons (ev_var rfl) (ea_cons (ev_var rfl) ea_nil))) fun H1 e Q q E => ⟨a, sc, rfl, ex_l e hS, fun z H2 h1 h2 e2 => q z H2 ⟨h1, h2⟩ e2⟩) fun v H1 e1 p1 => ?_
  obtain ⟨f, rfl, f0, f1⟩ := p1
  refine s_retTup2 (eg_call (P := fun H v H2 => ∃ ns, NewL (ns.map V.int) H v H2 ∧ cellsOk ns ∧ ns.length ≤ 20) (ea_cons (ev_var rfl) (ea_cons (ev_op (ev_var rfl) ev_c rv_I0) (ea_cons (ev_var rfl) (ea_cons (ev_var rfl) ea_nil)))) (fun H2 e2 Q k E => ⟨a, _, f, sc, rfl, ex_l (e1.trans e2) hS, by decide, by decide, f0, f1, k⟩) fun _ _ _ _ e p => ?_) (eg_call (P := fun H v H2 => ∃ tab, NewR K (tab.map kindV) H v H2 ∧ tabOk tab) (ea_cons (ev_var rfl) (ea_cons (ev_var rfl) (ea_cons (ev_var rfl) ea_nil))) (fun H2 e2 Q k E => ⟨a, sc, rfl, ex_l (e1.trans e2) hS, k⟩) fun _ _ _ _ e p => ?_) fun v w' H6 H7 p e6 p6 e7 p7 hp => ?_
  · obtain ⟨zs, h, hd⟩ := p
    exact ⟨zs, newL_back _ _ _ _ e h, hd⟩
  · obtain ⟨zs, h, hd⟩ := p
    exact ⟨zs, newR_back _ _ _ _ e h, hd⟩
  obtain ⟨ns, ⟨rl, rfl, hrl, h6⟩, hc, hl⟩ := p6
  obtain ⟨tab, ⟨tb, rfl, htb, R7⟩, ht⟩ := p7
  exact q p rl tb ns tab _ ((e1.trans (e6.trans e7)).trans (Ex.new hp)) upd_same (fresh_back e1 hrl) ((Ex.new hp) _ _ (e7 _ _ h6)) hc hl (fresh_back (e1.trans e6) htb) (R7.mono (Ex.new hp)) ht
end Sv
namespace Sv
open PySem PySem.Spec PyProof.Rows L2 Evl TL
theorem ok_Stock_init {P : Program} {w : World} {K : PySem.W.Frag} {mg : Str → Option Value} {base : Heap} {k : Nat} (T : Top K mg)  :
    Ok P w K mg base (k + 1) (He.ma K (He.ga K "Stock") "__init__") p_Stock_init (sp_Stock_init K) := by
  obtain ⟨fd, FD⟩ := T.d_Stock_init
  refine ⟨fd, FunD.ok FD sc_Stock_init (fun vs H Q E h => by obtain ⟨_, _, _, _, _, rfl, _⟩ := h; rfl) (fun cdv A outer s H vs Q E hr h => ?_), FD.bindsN fun _ _ _ _ _ _ us hl => match us, hl with | [_, _, _], _ => rfl, FD.kp⟩
  have nd := sc_Stock_init.nd
  have hu := hu_of hr
  refine ⟨_, PSs.nox (pss_cons (ps_fldK (K := K) (pv 0) (pe_callTy (call_listK (K := K)) (by rfl) T.f_list (by decide +kernel) (pa_cons (pv 1) pa_nil)) rfl)
      (pss_cons (ps_fldK (K := K) (pv 0) (pv 2) rfl)
      (pss_cons (ps_fldK (K := K) (pv 0) pe_dnewK rfl)
      (pss_cons (ps_fldK (K := K) (pv 0) pe_int rfl)
      (pss_cons (ps_fldK (K := K) (pv 0) pe_int rfl)
      (pss_cons (ps_fldK (K := K) (pv 0) (pe_tup (pa_cons pe_int (pa_cons pe_int (pa_cons pe_int pa_nil)))) rfl)
      (pss_cons (ps_fldK (K := K) (pv 0) (pe_lst pa_nil) rfl)
      (pss_one (ps_fldK (K := K) (pv 0) (pe_lst pa_nil) rfl))))))))), ?_⟩
  obtain ⟨p, dx, tb, xs, z, rfl, hp, hS, q⟩ := h
  refine q_fldB (n := 0) (EvL.g (el_list (ev_var rfl) hS)) (ev_var rfl) ⟨[], hp, Nat.le_refl _⟩ T.cl_Stock T.n_Stock_kinds (by decide) fun H1 b1 o1 => ?_
  refine q_fldB (EvG.of (ev_var rfl)) (ev_var rfl) o1 T.cl_Stock T.n_Stock_shortest (by decide) fun H2 b2 o2 => ?_
  refine q_fldB eg_dnew (ev_var rfl) o2 T.cl_Stock T.n_Stock_stands (by decide) fun H3 b3 o3 => ?_
  refine q_fldB (EvG.of ev_c) (ev_var rfl) o3 T.cl_Stock T.n_Stock_coming (by decide) fun H4 b4 o4 => ?_
  refine q_fldB (EvG.of ev_c) (ev_var rfl) o4 T.cl_Stock T.n_Stock_gained (by decide) fun H5 b5 o5 => ?_
  refine q_fldB (EvU.g (eu_tup (ea_cons ev_c (ea_cons ev_c (ea_cons ev_c ea_nil))) (by decide))) (ev_var rfl) o5 T.cl_Stock T.n_Stock_parts (by decide) fun H6 b6 o6 => ?_
  refine q_fldB (EvL.g (el_lst ea_nil (by decide))) (ev_var rfl) o6 T.cl_Stock T.n_Stock_behind (by decide) fun H7 b7 o7 => ?_
  refine s_fldB (EvL.g (el_lst ea_nil (by decide))) (ev_var rfl) o7 T.cl_Stock T.n_Stock_ahead (by decide) fun H8 b8 o8 => ?_
  exact q _ (((b1.trans b2).trans (b3.trans b4)).trans ((b5.trans b6).trans (b7.trans b8)))
end Sv
namespace Sv
open PySem PySem.Spec PyProof.Rows L2 Evl TL
theorem ok_Desk_init {P : Program} {w : World} {K : PySem.W.Frag} {mg : Str → Option Value} {base : Heap} {k : Nat} (T : Top K mg) (O_Stock_init : Ok P w K mg base k (He.ma K (He.ga K "Stock") "__init__") p_Stock_init (sp_Stock_init K)) :
    Ok P w K mg base (k + 2) (He.ma K (He.ga K "Desk") "__init__") p_Desk_init (sp_Desk_init K) := by
  obtain ⟨fd_Stock_init, F_Stock_init, b_Stock_init, k_Stock_init⟩ := O_Stock_init
  obtain ⟨fd, FD⟩ := T.d_Desk_init
  refine ⟨fd, FunD.ok FD sc_Desk_init (fun vs H Q E h => by obtain ⟨_, _, rfl, _⟩ := h; rfl) (fun cdv A outer s H vs Q E hr h => ?_), FD.bindsN fun _ _ _ _ _ _ us hl => match us, hl with | [_], _ => rfl, FD.kp⟩
  have nd := sc_Desk_init.nd
  have hu := hu_of hr
  refine ⟨_, PSs.nox (pss_cons (ps_fldK (K := K) (pv 0) (pe_lst pa_nil) rfl)
      (pss_cons (ps_fldK (K := K) (pv 0) (pe_make T.mk_Stock F_Stock_init hr rfl T.g_Stock b_Stock_init .nil pass0 (pa_cons (pe_lst pa_nil) (pa_cons pe_int pa_nil))) rfl)
      (pss_cons (ps_fldK (K := K) (pv 0) pe_dnewK rfl)
      (pss_cons (ps_fldK (K := K) (pv 0) (pe_lst pa_nil) rfl)
      (pss_one (ps_fldK (K := K) (pv 0) (pe_lst pa_nil) rfl)))))), ?_⟩
  obtain ⟨p, dx, rfl, hp, q⟩ := h
  refine q_fldG (EvL.g (el_lst ea_nil (by decide))) (ev_var rfl) hp T.cl_Desk T.n_Desk_kinds (by show 0 < 1000; decide) fun v H1 H2 e1 p1 e2 => ?_
  obtain ⟨kl, rfl, hkl, h1⟩ := p1
  have nkp : kl ≠ p := (ne_of_none hp hkl).symm
  have b2 : ExB p H (upd H2 p (.ins (CD K) dx (putF "kinds" (.ref kl) []))) := (Ex.b (e1.trans e2) p).upd _
  have k2 : (upd H2 p (.ins (CD K) dx (putF "kinds" (.ref kl) []))) kl = some (.lst []) := by rw [upd_ne nkp]; exact e2 _ _ h1
  have o2 : (upd H2 p (.ins (CD K) dx (putF "kinds" (.ref kl) []))) p = some (.ins (CD K) dx (putF "kinds" (.ref kl) [])) := upd_same
  generalize upd H2 p (.ins (CD K) dx (putF "kinds" (.ref kl) [])) = G2 at b2 k2 o2 ⊢
  refine q_fldG (eg_stock (EvL.g (el_lst ea_nil (by decide))) fun H1 v H2 _ _ p => ?_) (ev_var rfl) o2 T.cl_Desk T.n_Desk_store (by show 1 < 1000; decide) fun v H3 H4 e3 p3 e4 => ?_
  · obtain ⟨a, rfl, _, ha⟩ := p
    exact ⟨a, _, rfl, sq_of ha⟩
  obtain ⟨sx, rfl⟩ := p3
  have b4 : ExB p G2 (upd H4 p (.ins (CD K) dx (putF "store" (.ref sx) (putF "kinds" (.ref kl) [])))) := (Ex.b (e3.trans e4) p).upd _
  have o4 : (upd H4 p (.ins (CD K) dx (putF "store" (.ref sx) (putF "kinds" (.ref kl) [])))) p = some (.ins (CD K) dx (putF "store" (.ref sx) (putF "kinds" (.ref kl) []))) := upd_same
  generalize upd H4 p (.ins (CD K) dx (putF "store" (.ref sx) (putF "kinds" (.ref kl) []))) = G4 at b4 o4 ⊢
  refine q_fldG eg_dnew (ev_var rfl) o4 T.cl_Desk T.n_Desk_feeds (by show 2 < 1000; decide) fun v H5 H6 e5 p5 e6 => ?_
  obtain ⟨fd, rfl, hfd, h5⟩ := p5
  have nfp : fd ≠ p := (ne_of_none o4 hfd).symm
  have b6 : ExB p G4 (upd H6 p (.ins (CD K) dx (putF "feeds" (.ref fd) (putF "store" (.ref sx) (putF "kinds" (.ref kl) []))))) := (Ex.b (e5.trans e6) p).upd _
  have o6 : (upd H6 p (.ins (CD K) dx (putF "feeds" (.ref fd) (putF "store" (.ref sx) (putF "kinds" (.ref kl) []))))) p = some (.ins (CD K) dx (putF "feeds" (.ref fd) (putF "store" (.ref sx) (putF "kinds" (.ref kl) [])))) := upd_same
  have f6 : (upd H6 p (.ins (CD K) dx (putF "feeds" (.ref fd) (putF "store" (.ref sx) (putF "kinds" (.ref kl) []))))) fd = some (.dK []) := by rw [upd_ne nfp]; exact e6 _ _ h5
  generalize upd H6 p (.ins (CD K) dx (putF "feeds" (.ref fd) (putF "store" (.ref sx) (putF "kinds" (.ref kl) [])))) = G6 at b6 o6 f6 ⊢
  refine q_fldG (EvL.g (el_lst ea_nil (by decide))) (ev_var rfl) o6 T.cl_Desk T.n_Desk_tellings (by show 3 < 1000; decide) fun v H7 H8 e7 p7 e8 => ?_
  obtain ⟨te, rfl, _, _⟩ := p7
  refine s_fldG (EvL.g (el_lst ea_nil (by decide))) (ev_var rfl) upd_same T.cl_Desk T.n_Desk_undone (by show 4 < 1000; decide) fun v H9 HA e9 p9 eA => ?_
  obtain ⟨un, rfl, _, _⟩ := p9
  rw [df_new]
  have b8 : ExB p G6 (upd HA p (.ins (CD K) dx (df (.ref kl) (.ref sx) (.ref fd) (.ref te) (.ref un)))) := fun a o ha hn => by
    rw [upd_ne hn]
    refine (e9.trans eA) _ _ ?_
    rw [upd_ne hn]
    exact (e7.trans e8) _ _ ha
  have hfdH : H fd = none := by
    cases q9 : H fd with
    | none => rfl
    | some o =>
      rw [b4 _ _ (b2 _ _ q9 nfp) nfp] at hfd
      cases hfd
  refine q (owns p fd kl []) _ ⟨fd, kl, [], rfl, rfl, ⟨⟨dx, _, _, _, upd_same, ⟨[], sq_of (b8 _ _ (b6 _ _ (b4 _ _ k2 nkp) nkp) nkp), .nil⟩, ⟨_, b8 _ _ (b6 _ _ (b4 _ _ k2 nkp) nkp) nkp⟩, by simp⟩, b8 _ _ f6 nfp, by simp, by simp, by simp, by simp, by simp, by simp, by simp⟩⟩ (fun a o ha hn => b8 _ _ (b6 _ _ (b4 _ _ (b2 _ _ ha hn) hn) hn) hn) fun a ha => ?_
  have ha' : a = p ∨ a = fd ∨ a = kl := by simpa [owns] using ha
  rcases ha' with h | h | h
  · exact .inl h
  · exact .inr (by rw [h]; exact hfdH)
  · exact .inr (by rw [h]; exact hkl)
end Sv
namespace Sv
open PySem PySem.Spec PyProof.Rows L2 Evl TL
theorem ok_law_table_line {P : Program} {w : World} {K : PySem.W.Frag} {mg : Str → Option Value} {base : Heap} {k : Nat} (T : Top K mg)  :
    Ok P w K mg base (k + 1) (He.ga K "_law_table_line") p_law_table_line (sp_law_table_line K) := by
  obtain ⟨fd, FD⟩ := T.d_law_table_line
  refine ⟨fd, FunD.ok FD sc_law_table_line (fun vs H Q E h => by obtain ⟨_, _, rfl, _⟩ := h; rfl) (fun cdv A outer s H vs Q E hr h => ?_), FD.bindsN fun _ _ _ _ _ _ us hl => match us, hl with | [_], _ => rfl, FD.kp⟩
  have nd := sc_law_table_line.nd
  have hu := hu_of hr
  refine ⟨_, PSs.nox (pss_cons (ps_if (pt_cmpR op_eq (pe_callB (call_lenK (K := K)) (by rfl) T.f_len (by decide +kernel) (pa_cons (pv 0) pa_nil)) pe_int (nomark _))
       (pss_one (ps_ret pe_str)) pss_nil)
      (pss_one (ps_ret (pe_joinK (K := K) pe_str (pe_lc (own := [("_law_kind", 1)]) (g := gName 1) rfl nd (pi_listK (K := K) (pv 0)) (blkOk_by (own := [("_law_kind", 1)]) (N := N_law_table_line) (sc := defScope s_law_table_line) (by decide +kernel)) (fun _ _ _ _ _ => (pg_name (i := 1) nd rfl (Or.inl rfl))) (fun _ _ _ _ _ => pts_nil) (fun _ _ _ _ _ => (pe_joinK (K := K) pe_str (pe_lc (own := [("_law_one", 2)]) (g := gName 2) rfl nd (pi_tupK (K := K) (pv 1)) (blkOk_by (own := [("_law_one", 2)]) (N := N_law_table_line) (sc := lcScope (defBody s_law_table_line)) (by decide +kernel)) (fun _ _ _ _ _ => (pg_name (i := 2) nd rfl (Or.inl rfl))) (fun _ _ _ _ _ => pts_nil) (fun _ _ _ _ _ => (pe_callTy call_str_any (by rfl) T.f_str (by decide +kernel) (pa_cons (pv 2) pa_nil))))))))))), ?_⟩
  obtain ⟨a, tab, rfl, hTb, hok, q⟩ := h
  have hlen := hok.len
  refine q_when (b := decide (tab = [])) (et_is (et_test (ev_op (ev_lenR (ev_var rfl) hTb) ev_c (rv_eq rfl))) ?_) (fun hb H1 e1 => ?_) (fun hb H1 e1 => ?_)
  · rw [List.length_map]
    refine decide_eq_decide.mpr ⟨fun z => ?_, fun z => by rw [z]; rfl⟩
    have := V.int.inj z
    exact List.eq_nil_of_length_eq_zero (by omega)
  · refine s_ret (ev_is ev_c ?_) fun H2 e2 => q H2 (e1.trans e2)
    unfold tabLine
    rw [if_pos (of_decide_eq_true hb)]
  · have hne := of_decide_eq_false hb
    refine s_ret (ev_is (ev_joinN (ys := tab.map kindLine) ev_c ?_ ?_) ?_) fun H2 e2 => q H2 (e1.trans e2)
    · rw [List.map_map]
      refine el_lcRows (bs := tab) (rf := kindV) (fun k => V.str (kindLine k)) (ev_var rfl) (hTb.mono e1) (by omega) (fun _ => rfl) fun kd tk H2 e2 hk hT => ?_
      have hkd := hok.ks kd hk
      have hkd' := hkd
      obtain ⟨o1, o2, o3, o4, o5, o6, o7⟩ := hkd'
      refine ev_joinN (ys := kindWs kd) ev_c ?_ ?_
      · refine el_lcTup (xs := kindV kd) (ys := (kindWs kd).map V.str) rfl (ev_var rfl) hT (by show 4 ≤ 40000; decide) (fun _ => rfl) fun i x y H3 e3 hx hy => ?_
        match i, hx, hy with
        | 0, hx, hy =>
          have ex : V.str kd.name = x := Option.some.inj hx
          have ey : V.str kd.name = y := Option.some.inj hy
          rw [← ex, ← ey]
          exact fun H4 e4 Q k => ⟨_, rfl, .inr ⟨_, rfl, k H4 (Ex.refl _)⟩⟩
        | 1, hx, hy =>
          have ex : V.int kd.width = x := Option.some.inj hx
          have ey : V.str (numS kd.width) = y := Option.some.inj hy
          rw [← ex, ← ey]
          exact fun H4 e4 Q k => ⟨_, rfl, .inl ⟨_, rfl, log_ok (by omega) (by omega), k H4 (Ex.refl _)⟩⟩
        | 2, hx, hy =>
          have ex : V.int kd.worth = x := Option.some.inj hx
          have ey : V.str (numS kd.worth) = y := Option.some.inj hy
          rw [← ex, ← ey]
          exact fun H4 e4 Q k => ⟨_, rfl, .inl ⟨_, rfl, log_ok (by omega) (by omega), k H4 (Ex.refl _)⟩⟩
        | 3, hx, hy =>
          have ex : V.int kd.allowed = x := Option.some.inj hx
          have ey : V.str (numS kd.allowed) = y := Option.some.inj hy
          rw [← ex, ← ey]
          exact fun H4 e4 Q k => ⟨_, rfl, .inl ⟨_, rfl, log_ok (by omega) (by omega), k H4 (Ex.refl _)⟩⟩
        | i + 4, hx, hy => simp [kindV] at hx
      · have h1 : ((kindWs kd).map (·.length)).sum ≤ (kindWs kd).length * 19 := sum_le fun x hx => by
          rw [len_tl]
          exact (kindWs_ok hkd x hx).2.2
        have h2 : (" " : Str).length = 1 := by decide +kernel
        have h3 : (kindWs kd).length = 4 := rfl
        rw [h2]
        omega
    · have h1 : ((tab.map kindLine).map (·.length)).sum ≤ (tab.map kindLine).length * 80 := sum_le fun x hx => by
        obtain ⟨kd, hk, rfl⟩ := List.mem_map.mp hx
        rw [len_tl]
        exact kindLine_len (hok.ks kd hk)
      have h2 : (" / " : Str).length = 3 := by decide +kernel
      rw [List.length_map] at h1 ⊢
      rw [h2]
      omega
    · unfold tabLine
      rw [if_neg hne]
end Sv
namespace Sv
open PySem PySem.Spec PyProof.Rows L2 Evl TL
theorem ok_good_name {P : Program} {w : World} {K : PySem.W.Frag} {mg : Str → Option Value} {base : Heap} {k : Nat} (T : Top K mg)  :
    Ok P w K mg base (k + 1) (He.ga K "good_name") p_good_name (sp_good_name K) := by
  obtain ⟨fd, FD⟩ := T.d_good_name
  refine ⟨fd, FunD.ok FD sc_good_name (fun vs H Q E h => by obtain ⟨_, rfl, _⟩ := h; rfl) (fun cdv A outer s H vs Q E hr h => ?_), FD.bindsN fun _ _ _ _ _ _ us hl => match us, hl with | [_], _ => rfl, FD.kp⟩
  have nd := sc_good_name.nd
  have hu := hu_of hr
  refine ⟨_, PSs.nox (pss_cons (ps_if (pt_not (pt_chain op_le op_le pe_int (pe_callB call_len_str (by rfl) T.f_len (by decide +kernel) (pa_cons (pv 0) pa_nil)) (pe_glob (v := .int 8) rfl T.c_LONGEST_NAME.choose_spec ⟨_, rfl⟩)))
       (pss_one (ps_ret pe_bl)) pss_nil)
      (pss_one (ps_ret (pe_callB (cr_allK (K := K) rfl) (by rfl) T.f_all (by decide +kernel) (pa_cons (pe_lc (own := [("letter", 1)]) (g := gName 1) rfl nd (pi_str (pv 0)) (blkOk_by (own := [("letter", 1)]) (N := N_good_name) (sc := defScope s_good_name) (by decide +kernel)) (fun _ _ _ _ _ => (pg_name (i := 1) nd rfl (Or.inl rfl))) (fun _ _ _ _ _ => pts_nil) (fun _ _ _ _ _ => (pe_cmpR op_in_sign (pv 1) (pe_glob (v := .str "abcdefghijklmnopqrstuvwxyz") rfl T.c_LETTERS.choose_spec ⟨_, rfl⟩) rfl))) pa_nil))))), ?_⟩
  obtain ⟨s, rfl, hs, q⟩ := h
  have hl : s.length = (tl s).length := len_tl s
  obtain ⟨h1, h2, h3⟩ := hs
  refine q_when (b := false) (et_is (et_not (et_test (ev_chain (a := true) (b := true) ev_c (ev_lenS (ev_var rfl) (by omega)) (rv_leT (by omega)) (fun _ => ev_c) (fun _ => rv_leT (by omega))))) rfl) (fun h => nomatch h) fun _ H1 e1 => ?_
  refine s_ret (ev_is (ev_all (bs := (tl s).map fun c => decide (c ∈ tl ("abcdefghijklmnopqrstuvwxyz" : Str))) ?_) ?_) fun H2 e2 => q H2 (e1.trans e2)
  · rw [List.map_map]
    exact el_lcS (fun c => V.bl (decide (c ∈ tl ("abcdefghijklmnopqrstuvwxyz" : Str)))) (ev_var rfl) (by omega) (fun _ => rfl) fun c H2 e2 hc => ev_op (ev_var rfl) ev_c rv_inS
  · congr 1
    rw [List.all_map, List.all_eq_true]
    intro c hc
    obtain ⟨g1, g2⟩ := h3 c hc
    have el : tl ("abcdefghijklmnopqrstuvwxyz" : Str) = (List.range 26).map fun i => 97 + i := by decide +kernel
    refine decide_eq_true ?_
    rw [el]
    exact List.mem_map.mpr ⟨c - 97, List.mem_range.mpr (by omega), by omega⟩
end Sv
namespace Sv
open PySem PySem.Spec PyProof.Rows L2 Evl TL
theorem ok_read_name {P : Program} {w : World} {K : PySem.W.Frag} {mg : Str → Option Value} {base : Heap} {k : Nat} (T : Top K mg) (O_good_name : Ok P w K mg base k (He.ga K "good_name") p_good_name (sp_good_name K)) :
    Ok P w K mg base (k + 1) (He.ga K "read_name") p_read_name (sp_read_name K) := by
  obtain ⟨fd_good_name, F_good_name, b_good_name, k_good_name⟩ := O_good_name
  obtain ⟨fd, FD⟩ := T.d_read_name
  refine ⟨fd, FunD.ok FD sc_read_name (fun vs H Q E h => by obtain ⟨_, rfl, _⟩ := h; rfl) (fun cdv A outer s H vs Q E hr h => ?_), FD.bindsN fun _ _ _ _ _ _ us hl => match us, hl with | [_], _ => rfl, FD.kp⟩
  have nd := sc_read_name.nd
  have hu := hu_of hr
  refine ⟨_, PSs.nox (pss_cons (ps_if (pt_not (pt_val (pe_call F_good_name hr rfl T.g_good_name k_good_name b_good_name .nil pass0 (pa_cons (pv 0) pa_nil))))
       (pss_one ps_never) pss_nil)
      (pss_one (ps_ret (pv 0)))), ?_⟩
  obtain ⟨s, rfl, hs, q⟩ := h
  refine q_when (b := false) (et_is (et_not (a := true) (et_B (ev_call (ea_cons (ev_var rfl) ea_nil) fun H2 e2 Q k E => ⟨s, rfl, hs, k⟩))) rfl) (fun h => nomatch h) fun _ H1 e1 => ?_
  exact s_ret (ev_var rfl) fun H2 e2 => q H2 (e1.trans e2)
end Sv
namespace Sv
open PySem PySem.Spec PyProof.Rows L2 Evl TL
theorem ok_read_whole {P : Program} {w : World} {K : PySem.W.Frag} {mg : Str → Option Value} {base : Heap} {k : Nat} (T : Top K mg)  :
    Ok P w K mg base (k + 1) (He.ga K "read_whole") p_read_whole (sp_read_whole K) := by
  obtain ⟨fd, FD⟩ := T.d_read_whole
  refine ⟨fd, FunD.ok FD sc_read_whole (fun vs H Q E h => by obtain ⟨_, rfl, _⟩ := h; rfl) (fun cdv A outer s H vs Q E hr h => ?_), FD.bindsN fun _ _ _ _ _ _ us hl => match us, hl with | [_], _ => rfl, FD.kp⟩
  have nd := sc_read_whole.nd
  have hu := hu_of hr
  refine ⟨_, PSs.nox (pss_cons (ps_set (i := 1) nd rfl (Or.inl rfl) (pv 0))
      (pss_cons (ps_if (pt_cmpR op_eq (pe_slice sl_str (pv 0) po_none (po_some pe_int)) pe_str (nomark _))
       (pss_one (ps_set (i := 1) nd rfl (Or.inl rfl) (pe_slice sl_str (pv 0) (po_some pe_int) po_none))) pss_nil)
      (pss_cons (ps_if (pt_not (pt_chain op_le op_le pe_int (pe_callB call_len_str (by rfl) T.f_len (by decide +kernel) (pa_cons (pv 1) pa_nil)) (pe_glob (v := .int 20) rfl T.c_MOST_FIGURES.choose_spec ⟨_, rfl⟩)))
       (pss_one ps_never) pss_nil)
      (pss_cons (ps_for PassesOwn.never rfl (pi_str (pv 1)) (pg_name (i := 2) nd rfl (Or.inl rfl))
       (pss_one (ps_if (pt_cmpR op_notIn_sign (pv 2) (pe_glob (v := .str "0123456789") rfl T.c_FIGURES.choose_spec ⟨_, rfl⟩) rfl)
         (pss_one ps_never) pss_nil)))
      (pss_cons (ps_if (PW.pt (pw_and (pt_cmpR op_eq (pe_ix ix_str (pv 1) pe_int (fun _ _ => rfl)) pe_str (nomark _)) (pw_and1 (pt_cmpR op_ne (pv 0) pe_str (nomark _)))))
       (pss_one ps_never) pss_nil)
      (pss_one (ps_ret (pe_callTy call_int_str (by rfl) T.f_int (by decide +kernel) (pa_cons (pv 0) pa_nil))))))))), ?_⟩
  obtain ⟨n, rfl, hn, q⟩ := h
  have ht := tl_numS n
  have hl : (numS (n : Int)).length = (numL n).length := by rw [len_tl, ht]
  have hne : numL n ≠ [] := numL_ne n
  have h20 : (numL n).length ≤ 20 := numL_len (by decide) (by exact hn)
  have h1 : 1 ≤ (numL n).length := List.length_pos_iff.mpr hne
  obtain ⟨c, r, hc⟩ : ∃ c r, numL n = c :: r := by
    cases q9 : numL n with
    | nil => exact absurd q9 hne
    | cons c r => exact ⟨c, r, rfl⟩
  have hcd := numL_mem (n := n) (c := c) (by rw [hc]; simp)
  refine q_asg (ev_var rfl) fun H1 e1 => ?_
  have hcut : tl (cutS (numS (n : Int)) none (some 1)) = [c] := by
    have e9 : tl (cutS (numS (n : Int)) none (some 1)) = ((tl (numS (n : Int))).drop (HT.sIx (numS (n : Int)).length 0 none)).take (HT.sIx (numS (n : Int)).length (numS (n : Int)).length (some 1) - HT.sIx (numS (n : Int)).length 0 none) := by
      show (List.toArray _).toList = _
      rw [List.toList_toArray]
    have e8 : HT.sIx (numS (n : Int)).length (numS (n : Int)).length (some 1) = 1 := by
      have := HT.sIx_nat (numS (n : Int)).length (numS (n : Int)).length 1
      rw [show ((1 : Nat) : Int) = 1 from rfl] at this
      rw [this, hl]
      omega
    rw [e9, ht, HT.sIx_none, e8, hc]
    rfl
  refine q_when (b := false) (et_is (et_test (ev_op (ev_slS (ev_var rfl) eo_none (eo_some ev_c) (by omega)) ev_c (rv_eq rfl))) ?_) (fun h => nomatch h) fun _ H2 e2 => ?_
  · refine decide_eq_false fun e => ?_
    have e9 := congrArg tl (V.str.inj e)
    rw [hcut, tl_dash] at e9
    have := (List.cons.inj e9).1
    omega
  · have e12 := e1.trans e2
    refine q_when (b := false) (et_is (et_not (et_test (ev_chain (a := true) (b := true) ev_c (ev_lenS (ev_var rfl) (by omega)) (rv_leT (by omega)) (fun _ => ev_c) (fun _ => rv_leT (by omega))))) rfl) (fun h => nomatch h) fun _ H3 e3 => ?_
    have e13 := e12.trans e3
    refine q_forS (ev_var rfl) (fun i σ' H' => ∃ v, σ' = [some (.str (numS (n : Int))), some (.str (numS (n : Int))), v] ∧ Ex H H') ?_ ?_ ?_
    · exact fun H4 e4 => ⟨none, rfl, e13.trans e4⟩
    · rintro i d σ' H4 hd ⟨v, rfl, e4⟩
      rw [ht] at hd
      have hm := numL_mem (List.mem_of_getElem? hd)
      refine s_when (b := false) (et_is (et_test (ev_op (ev_var rfl) ev_c rv_niS)) ?_) (fun h => nomatch h) fun _ H5 e5 => ⟨_, rfl, e4.trans e5⟩
      have el : tl ("0123456789" : Str) = (List.range 10).map fun i => 48 + i := by decide +kernel
      rw [el, decide_eq_true (List.mem_map.mpr ⟨d - 48, List.mem_range.mpr (by omega), by omega⟩)]
      rfl
    · rintro σ' H4 ⟨v, rfl, e4⟩
      refine q_when (b := false) (et_is (et_and (a := decide (V.str ⟨#[c]⟩ = V.str "0")) (b := !decide (V.str (numS (n : Int)) = V.str "0")) (et_test (ev_op (ev_op (ev_var rfl) ev_c (rv_ixS (c := c) (by omega) ?_)) ev_c (rv_eq rfl))) fun _ => et_test (ev_op (ev_var rfl) ev_c (rv_ne rfl))) ?_) (fun h => nomatch h) fun _ H5 e5 => ?_
      · show atI (tl (numS (n : Int))) 0 = some c
        rw [ht, hc]
        exact atI_nat (j := 0) rfl
      · by_cases h0 : n = 0
        · subst h0
          have e9 : numS ((0 : Nat) : Int) = "0" := by decide +kernel
          rw [e9]
          simp
        · obtain ⟨c', r', hc', hz⟩ := numL_head (Nat.pos_of_ne_zero h0)
          rw [hc] at hc'
          have ec : c = c' := (List.cons.inj hc').1
          have hn0 : ¬ (V.str ⟨#[c]⟩ = V.str "0") := fun e => by
            have e9 := congrArg tl (V.str.inj e)
            have e8 : tl ("0" : Str) = [48] := by decide +kernel
            rw [e8] at e9
            have e7 : tl (⟨#[c]⟩ : Str) = [c] := rfl
            rw [e7] at e9
            have := (List.cons.inj e9).1
            omega
          rw [decide_eq_false hn0]
          rfl
      · exact s_ret (ev_int (ev_var rfl) (int_num (by omega)) (by omega)) fun H6 e6 => q H6 ((e4.trans e5).trans e6)
end Sv
namespace Sv
open PySem PySem.Spec PyProof.Rows L2 Evl TL
theorem ok_read_kind {P : Program} {w : World} {K : PySem.W.Frag} {mg : Str → Option Value} {base : Heap} {k : Nat} (T : Top K mg) (O_read_name : Ok P w K mg base k (He.ga K "read_name") p_read_name (sp_read_name K)) (O_read_whole : Ok P w K mg base k (He.ga K "read_whole") p_read_whole (sp_read_whole K)) :
    Ok P w K mg base (k + 1) (He.ga K "read_kind") p_read_kind (sp_read_kind K) := by
  obtain ⟨fd_read_name, F_read_name, b_read_name, k_read_name⟩ := O_read_name
  obtain ⟨fd_read_whole, F_read_whole, b_read_whole, k_read_whole⟩ := O_read_whole
  obtain ⟨fd, FD⟩ := T.d_read_kind
  refine ⟨fd, FunD.ok FD sc_read_kind (fun vs H Q E h => by obtain ⟨_, rfl, _⟩ := h; rfl) (fun cdv A outer s H vs Q E hr h => ?_), FD.bindsN fun _ _ _ _ _ _ us hl => match us, hl with | [_], _ => rfl, FD.kp⟩
  have nd := sc_read_kind.nd
  have hu := hu_of hr
  refine ⟨_, PSs.nox (pss_cons (ps_set (i := 1) nd rfl (Or.inl rfl) (pe_splitN (pv 0) pe_str))
      (pss_cons (ps_if (pt_cmpR op_ne (pe_callB (call_lenK (K := K)) (by rfl) T.f_len (by decide +kernel) (pa_cons (pv 1) pa_nil)) pe_int (nomark _))
       (pss_one ps_never) pss_nil)
      (pss_one (ps_ret (pe_tup (pa_cons (pe_call F_read_name hr rfl T.g_read_name k_read_name b_read_name .nil pass0 (pa_cons (pe_ix (ix_listK (K := K)) (pv 1) pe_int (fun _ _ => rfl)) pa_nil)) (pa_cons (pe_call F_read_whole hr rfl T.g_read_whole k_read_whole b_read_whole .nil pass0 (pa_cons (pe_ix (ix_listK (K := K)) (pv 1) pe_int (fun _ _ => rfl)) pa_nil)) (pa_cons (pe_call F_read_whole hr rfl T.g_read_whole k_read_whole b_read_whole .nil pass0 (pa_cons (pe_ix (ix_listK (K := K)) (pv 1) pe_int (fun _ _ => rfl)) pa_nil)) (pa_cons (pe_call F_read_whole hr rfl T.g_read_whole k_read_whole b_read_whole .nil pass0 (pa_cons (pe_ix (ix_listK (K := K)) (pv 1) pe_int (fun _ _ => rfl)) pa_nil)) pa_nil))))))))), ?_⟩
  obtain ⟨kd, rfl, hok, q⟩ := h
  have hl := kindLine_len hok
  have hks := kindLine_split hok
  obtain ⟨o1, o2, o3, o4, o5, o6, o7⟩ := hok
  have hws : EvL (tM1 rSplit (tVar 0) (tC (.str " "))) (start N_read_kind [V.str (kindLine kd)]) H ((kindWs kd).map V.str) := by
    rw [← hks]
    exact el_split (ev_var rfl) ev_c (by decide +kernel) (by rw [len_tl]; omega)
  refine q_asgL hws fun w H1 hw e1 h1 => ?_
  refine q_when (b := false) (et_is (et_test (ev_op (ev_len (ev_var rfl) (sq_of h1)) ev_c (rv_ne rfl))) rfl) (fun h => nomatch h) fun _ H2 e2 => ?_
  have h2 := e2 _ _ h1
  have num : ∀ (i : Nat) (z : Int), 0 ≤ z → z ≤ 1000000000000000000 → (kindWs kd)[i]? = some (numS z) → Ev (tCall (sp_read_whole K) [] E0 (tCons (tOp (rIxL K) (tVar 1) (tC (.int (i : Int)))) tNil)) ((start N_read_kind [V.str (kindLine kd)]).set 1 (some (.ref w))) H2 (.int z) := fun i z z1 z2 hi => by
    obtain ⟨n, rfl⟩ : ∃ n : Nat, z = (n : Int) := ⟨z.toNat, by omega⟩
    exact ev_call (ea_cons (ev_op (ev_var rfl) ev_c (rv_ixL (sq_of h2) (at_int rfl hi))) ea_nil) fun H3 e3 Q k E => ⟨n, rfl, by omega, k⟩
  refine s_retU (eu_tup (vs := kindV kd) (ea_cons (ev_call (ea_cons (ev_op (ev_var rfl) ev_c (rv_ixL (sq_of h2) (at_int (j := 0) rfl rfl))) ea_nil) fun H3 e3 Q k E => ⟨kd.name, rfl, o1, k⟩) (ea_cons (num 1 kd.width (by omega) (by omega) rfl) (ea_cons (num 2 kd.worth (by omega) o5 rfl) (ea_cons (num 3 kd.allowed o6 (by omega) rfl) ea_nil)))) (by show 4 ≤ 100000; decide)) fun p H3 hp e3 h3 => q _ H3 ((e1.trans e2).trans e3) ⟨p, rfl, fresh_back (e1.trans e2) hp, h3⟩
end Sv
namespace Sv
open PySem PySem.Spec PyProof.Rows L2 Evl TL
theorem ok_good_kind {P : Program} {w : World} {K : PySem.W.Frag} {mg : Str → Option Value} {base : Heap} {k : Nat} (T : Top K mg) (O_good_name : Ok P w K mg base k (He.ga K "good_name") p_good_name (sp_good_name K)) :
    Ok P w K mg base (k + 1) (He.ga K "good_kind") p_good_kind (sp_good_kind K) := by
  obtain ⟨fd_good_name, F_good_name, b_good_name, k_good_name⟩ := O_good_name
  obtain ⟨fd, FD⟩ := T.d_good_kind
  refine ⟨fd, FunD.ok FD sc_good_kind (fun vs H Q E h => by obtain ⟨_, _, rfl, _⟩ := h; rfl) (fun cdv A outer s H vs Q E hr h => ?_), FD.bindsN fun _ _ _ _ _ _ us hl => match us, hl with | [_], _ => rfl, FD.kp⟩
  have nd := sc_good_kind.nd
  have hu := hu_of hr
  refine ⟨_, PSs.nox (pss_cons (ps_asg (pv 0) (pg_tupK (K := K) rfl (pgs_cons (pg_name (i := 1) nd rfl (Or.inl rfl)) (pgs_cons (pg_name (i := 2) nd rfl (Or.inl rfl)) (pgs_cons (pg_name (i := 3) nd rfl (Or.inl rfl)) (pgs_cons (pg_name (i := 4) nd rfl (Or.inl rfl)) pgs_nil))))))
      (pss_cons (ps_if (PW.pt (pw_or (pt_not (pt_val (pe_call F_good_name hr rfl T.g_good_name k_good_name b_good_name .nil pass0 (pa_cons (pv 1) pa_nil)))) (pw_or1 (pt_not (pt_chain op_le op_le pe_int (pv 2) (pe_glob (v := .int 200) rfl T.c_WIDEST.choose_spec ⟨_, rfl⟩))))))
       (pss_one (ps_ret pe_bl)) pss_nil)
      (pss_one (ps_ret (pe_and (pe_chain op_le op_le pe_int (pv 3) (pe_glob (v := .int 1000000000000000000) rfl T.c_DEAREST.choose_spec ⟨_, rfl⟩)) (pe_one (pe_chain op_le op_lt pe_int (pv 4) (pe_glob (v := .int 1000000000000000000) rfl T.c_DEAREST.choose_spec ⟨_, rfl⟩)))))))), ?_⟩
  obtain ⟨t, kd, rfl, hT, hk, q⟩ := h
  obtain ⟨k1, k2, k3, k4, k5, k6, k7⟩ := hk
  refine q_asgT4 (ev_var rfl) hT fun H1 e1 => ?_
  refine q_when (b := false) (et_is (et_or (a := false) (b := false) (et_is (et_not (a := true) (et_B (ev_call (ea_cons (ev_var rfl) ea_nil) fun H2 e2 Q k E => ⟨kd.name, rfl, k1, k⟩))) rfl) fun _ => et_is (et_not (et_test (ev_chain (a := true) (b := true) ev_c (ev_var rfl) (rv_leT (by omega)) (fun _ => ev_c) fun _ => rv_leT (by omega)))) rfl) rfl) (fun h => nomatch h) fun _ H2 e2 => ?_
  refine s_ret (ev_is (ev_andV (a := true) (b := true) (ev_chain (a := true) (b := true) ev_c (ev_var rfl) (rv_leT (by omega)) (fun _ => ev_c) fun _ => rv_leT (by omega)) fun _ => ev_chain (a := true) (b := true) ev_c (ev_var rfl) (rv_leT (by omega)) (fun _ => ev_c) fun _ => rv_ltT (by omega)) rfl) fun H3 e3 => q H3 ((e1.trans e2).trans e3)
end Sv
namespace Sv
open PySem PySem.Spec PyProof.Rows L2 Evl TL
theorem ok_fault {P : Program} {w : World} {K : PySem.W.Frag} {mg : Str → Option Value} {base : Heap} {k : Nat} (T : Top K mg) (O_good_kind : Ok P w K mg base k (He.ga K "good_kind") p_good_kind (sp_good_kind K)) :
    Ok P w K mg base (k + 1) (He.ga K "fault") p_fault (sp_fault K) := by
  obtain ⟨fd_good_kind, F_good_kind, b_good_kind, k_good_kind⟩ := O_good_kind
  obtain ⟨fd, FD⟩ := T.d_fault
  refine ⟨fd, FunD.ok FD sc_fault (fun vs H Q E h => by obtain ⟨_, _, rfl, _⟩ := h; rfl) (fun cdv A outer s H vs Q E hr h => ?_), FD.bindsN fun _ _ _ _ _ _ us hl => match us, hl with | [_], _ => rfl, FD.kp⟩
  have nd := sc_fault.nd
  have hu := hu_of hr
  refine ⟨_, PSs.nox (pss_cons (ps_set (i := 1) nd rfl (Or.inl rfl) pe_dnewK)
      (pss_cons (ps_for PassesOwn.never rfl (pi_enumK (K := K) (by rfl) T.f_enumerate (pa_cons (pv 0) pa_nil)) (pg_tupK (K := K) rfl (pgs_cons (pg_name (i := 2) nd rfl (Or.inl rfl)) (pgs_cons (pg_name (i := 3) nd rfl (Or.inl rfl)) pgs_nil)))
       (pss_cons (ps_if (PW.pt (pw_or (pt_cmpR op_ge (pv 2) (pe_glob (v := .int 8) rfl T.c_MOST_KINDS.choose_spec ⟨_, rfl⟩) (nomark _)) (pw_or (pt_not (pt_val (pe_call F_good_kind hr rfl T.g_good_kind k_good_kind b_good_kind .nil pass0 (pa_cons (pv 3) pa_nil)))) (pw_or1 (pt_cmp (pc_din hu (pe_ix (ix_tupK (K := K)) (pv 3) pe_int (fun _ _ => rfl)) (pv 1)))))))
         (pss_one (ps_ret (pv 2))) pss_nil)
        (pss_one (ps_dput hu (pv 1) (pe_ix (ix_tupK (K := K)) (pv 3) pe_int (fun _ _ => rfl)) pe_bl rfl))))
      (pss_one (ps_ret pe_non)))), ?_⟩
  obtain ⟨a, tab, rfl, hTb, hok, q⟩ := h
  obtain ⟨ts, hB, hA0⟩ := id hTb
  have hA := hA0.of_map
  have htl : ts.length = tab.length := hA.length
  have hlen := hok.len
  refine q_dnew fun d H1 hd e1 h1 => ?_
  refine q_forE (ea_cons (ev_var rfl) ea_nil) (ex_l e1 hB) (fun i σ' H' => ∃ v2 v3 kvs, σ' = [some (.ref a), some (.ref d), v2, v3] ∧ Ex H H' ∧ H' d = some (.dK kvs) ∧ kvs.length ≤ i ∧ ∀ nm : Str, valV kvs (Sum.inr nm) ≠ none → nm ∈ (tab.take i).map fun k => k.name) ?_ ?_ ?_ ?_
  · exact fun H2 e2 => ⟨none, none, [], rfl, e1.trans e2, e2 _ _ h1, Nat.le_refl _, fun nm h => absurd rfl h⟩
  · rintro i σ' H2 _ ⟨v2, v3, kvs, rfl, e2, _⟩
    exact ex_l e2 hB
  · rintro i x σ' H2 H2' hi ⟨v2, v3, kvs, rfl, e2, h2, hkl, hno⟩ eT
    obtain ⟨tk, htk, rfl⟩ := map_get hi
    obtain ⟨kd, hkd, hT⟩ := hA.get' htk
    have e2' := e2.trans eT
    have hT2 := ex_t e2' hT
    have hil := lt_of_get hkd
    have hok1 := hok.ks kd (List.mem_of_getElem? hkd)
    have etk : tab.take (i + 1) = tab.take i ++ [kd] := by
      rw [List.take_succ_eq_append_getElem hil, (List.getElem?_eq_some_iff.mp hkd).2]
    have hnew : valV kvs (Sum.inr kd.name) = none := by
      cases q9 : valV kvs (Sum.inr kd.name) with
      | none => rfl
      | some v =>
        have hm := hno kd.name (by rw [q9]; intro z; cases z)
        have hnd := hok.nd
        have e9 : tab = tab.take i ++ tab.drop i := (List.take_append_drop i tab).symm
        have e8 : tab.drop i = kd :: tab.drop (i + 1) := by
          rw [List.drop_eq_getElem_cons hil, (List.getElem?_eq_some_iff.mp hkd).2]
        rw [e9, e8, List.map_append, List.nodup_append] at hnd
        exact absurd rfl (hnd.2.2 _ hm _ (List.mem_map.mpr ⟨kd, by simp, rfl⟩))
    refine q_when (b := false) (et_is (et_or (a := false) (b := false) (et_is (et_test (ev_op (ev_var rfl) ev_c rv_I0)) (decide_eq_false (by omega))) fun _ => et_is (et_or (a := false) (b := false) (et_is (et_not (a := true) (et_B (ev_call (ea_cons (ev_var rfl) ea_nil) fun H3 e3 Q k E => ⟨tk, kd, rfl, ex_t e3 hT2, hok1, k⟩))) rfl) fun _ => ?_) rfl) rfl) (fun h => nomatch h) fun _ H3 e3 => ?_
    · refine et_B (fun H3 e3 Q k => ?_)
      refine ev_op (ev_var rfl) ev_c (rv_ixT hT2 (kind_at0 kd)) H3 e3 _ fun H4 e4 => ⟨_, rfl, d, _, rfl, DGet.k (k := Sum.inr kd.name) ((eT.trans (e3.trans e4)) _ _ h2), ?_⟩
      rw [hnew]
      exact k H4 e4
    · refine s_dput (k := Sum.inr kd.name) (ev_c (v := .bl true)) (ev_var rfl) (ev_op (ev_var rfl) ev_c (rv_ixT (ex_t e3 hT2) (kind_at0 kd))) ((eT.trans e3) _ _ h2) (by omega) fun H4 b4 h4 => ?_
      refine ⟨_, _, _, rfl, b4.ex (e2'.trans e3) hd, h4, ?_, fun nm hnm => ?_⟩
      · rw [putK_new _ hnew, List.length_append]
        simp
        omega
      · rw [valV_put] at hnm
        rw [etk, List.map_append, List.mem_append]
        by_cases hx : (Sum.inr nm : Key) = Sum.inr kd.name
        · exact .inr (by rw [Sum.inr.inj hx]; simp)
        · rw [if_neg hx] at hnm
          exact .inl (hno nm hnm)
  · rintro σ' H2 ⟨v2, v3, kvs, rfl, e2, _⟩
    exact s_ret ev_c fun H3 e3 => q H3 (e2.trans e3)
end Sv
namespace Sv
open PySem PySem.Spec PyProof.Rows L2 Evl TL
theorem ok_read_table {P : Program} {w : World} {K : PySem.W.Frag} {mg : Str → Option Value} {base : Heap} {k : Nat} (T : Top K mg) (O_read_kind : Ok P w K mg base k (He.ga K "read_kind") p_read_kind (sp_read_kind K)) (O_fault : Ok P w K mg base k (He.ga K "fault") p_fault (sp_fault K)) :
    Ok P w K mg base (k + 1) (He.ga K "read_table") p_read_table (sp_read_table K) := by
  obtain ⟨fd_read_kind, F_read_kind, b_read_kind, k_read_kind⟩ := O_read_kind
  obtain ⟨fd_fault, F_fault, b_fault, k_fault⟩ := O_fault
  obtain ⟨fd, FD⟩ := T.d_read_table
  refine ⟨fd, FunD.ok FD sc_read_table (fun vs H Q E h => by obtain ⟨_, rfl, _⟩ := h; rfl) (fun cdv A outer s H vs Q E hr h => ?_), FD.bindsN fun _ _ _ _ _ _ us hl => match us, hl with | [_], _ => rfl, FD.kp⟩
  have nd := sc_read_table.nd
  have hu := hu_of hr
  refine ⟨_, PSs.nox (pss_cons (ps_if (pt_cmpR op_eq (pv 0) pe_str (nomark _))
       (pss_one (ps_ret (pe_lst pa_nil))) pss_nil)
      (pss_cons (ps_setLc (i := 1) (own := [("part", 2)]) (g := gName 2) rfl nd rfl rfl (sw_true rfl rfl rfl (by decide +kernel)) (pi_listK (K := K) (pe_splitN (pv 0) pe_str)) (blkOk_by (own := [("part", 2)]) (N := N_read_table) (sc := defScope s_read_table) (by decide +kernel)) (fun _ _ _ _ _ => (pg_name (i := 2) nd rfl (Or.inl rfl))) (fun _ _ _ _ _ => pts_nil) (fun _ _ _ _ _ => (pe_call F_read_kind hr rfl T.g_read_kind k_read_kind b_read_kind .nil pass0 (pa_cons (pv 2) pa_nil))))
      (pss_cons (ps_if (pt_cmpR op_notN (pe_call F_fault hr rfl T.g_fault k_fault b_fault .nil pass0 (pa_cons (pv 1) pa_nil)) pe_non (nomark _))
       pss_never pss_nil)
      (pss_one (ps_ret (pv 1)))))), ?_⟩
  obtain ⟨tab, rfl, hok, q⟩ := h
  have hlen := hok.len
  have hll : (tabLine tab).length ≤ 6000 := by
    rw [len_tl, ← tabWs_tl]
    have h1 := joinL_len (S := [32]) (m := 19) (ws := (tabWs tab).map tl) fun w hw => by
      obtain ⟨z, hz, rfl⟩ := List.mem_map.mp hw
      exact (tabWs_ok hok.ks z hz).2
    have h2 := tabWs_len tab
    rw [List.length_map] at h1
    have h3 : (tabWs tab).length * (19 + 1) ≤ 41 * (19 + 1) := Nat.mul_le_mul_right _ (by omega)
    exact Nat.le_trans h1 (by exact Nat.le_trans h3 (by decide))
  refine q_when (b := decide (tab = [])) (et_is (et_test (ev_op (ev_var rfl) ev_c (rv_eq rfl))) ?_) (fun hb H1 e1 => ?_) (fun hb H1 e1 => ?_)
  · refine decide_eq_decide.mpr ⟨fun z => ?_, fun z => by rw [z]; rfl⟩
    by_cases hne : tab = []
    · exact hne
    · exact absurd (V.str.inj z) (tabLine_dash hok.ks hne)
  · rw [of_decide_eq_true hb] at q ⊢
    exact s_retG (eg_lst0 (K := K)) fun v H2 e2 p => q v H2 (e1.trans e2) (newR_back _ _ _ _ e1 p)
  · have hne := of_decide_eq_false hb
    refine q_asgG (eg_lcNR (K := K) (xs := tab) (g := fun k => V.str (kindLine k)) (rf := kindV) (j := 2) ?_ (by omega) (fun _ => rfl) fun kd H2 e2 hk => ?_) fun v H2 e2 p => ?_
    · have h1 := el_split (σ := start N_read_table [V.str (tabLine tab)]) (H := H1) (to := tVar 0) (te := tC (.str " / ")) (a := tabLine tab) (b := " / ") (ev_var rfl) ev_c (by decide +kernel) (by omega)
      rw [tabLine_split hok.ks hne, List.map_map] at h1
      exact h1
    · exact eg_call (P := fun _ v H2 => ∃ p, v = .ref p ∧ H2 p = some (.tup (kindV kd))) (ea_cons (ev_var rfl) ea_nil) (fun H3 e3 Q k E => ⟨kd, rfl, hok.ks kd hk, fun v H4 e4 p => k v H4 e4 (by obtain ⟨p, h1, _, h3⟩ := p; exact ⟨p, h1, h3⟩)⟩) fun _ _ _ _ _ p => p
    · obtain ⟨tb, rfl, htb, hR⟩ := p
      refine q_when (b := false) (et_is (et_test (ev_op (x := .non) (ev_call (ea_cons (ev_var rfl) ea_nil) fun H3 e3 Q k E => ⟨tb, tab, rfl, hR.l.mono e3, hok, k⟩) ev_c (rv_notN rfl))) rfl) (fun h => nomatch h) fun _ H3 e3 => ?_
      exact s_ret (ev_var rfl) fun H4 e4 => q _ H4 ((e1.trans e2).trans (e3.trans e4)) ⟨tb, rfl, fresh_back e1 htb, hR.mono (e3.trans e4)⟩
end Sv
namespace Sv
open PySem PySem.Spec PyProof.Rows L2 Evl TL
theorem ok_read_numbers {P : Program} {w : World} {K : PySem.W.Frag} {mg : Str → Option Value} {base : Heap} {k : Nat} (T : Top K mg) (O_read_whole : Ok P w K mg base k (He.ga K "read_whole") p_read_whole (sp_read_whole K)) :
    Ok P w K mg base (k + 1) (He.ga K "read_numbers") p_read_numbers (sp_read_numbers K) := by
  obtain ⟨fd_read_whole, F_read_whole, b_read_whole, k_read_whole⟩ := O_read_whole
  obtain ⟨fd, FD⟩ := T.d_read_numbers
  refine ⟨fd, FunD.ok FD sc_read_numbers (fun vs H Q E h => by obtain ⟨_, rfl, _⟩ := h; rfl) (fun cdv A outer s H vs Q E hr h => ?_), FD.bindsN fun _ _ _ _ _ _ us hl => match us, hl with | [_], _ => rfl, FD.kp⟩
  have nd := sc_read_numbers.nd
  have hu := hu_of hr
  refine ⟨_, PSs.nox (pss_cons (ps_if (pt_cmpR op_eq (pv 0) pe_str (nomark _))
       (pss_one (ps_ret (pe_lst pa_nil))) pss_nil)
      (pss_one (ps_ret (pe_lc (own := [("word", 1)]) (g := gName 1) rfl nd (pi_listK (K := K) (pe_splitN (pv 0) pe_str)) (blkOk_by (own := [("word", 1)]) (N := N_read_numbers) (sc := defScope s_read_numbers) (by decide +kernel)) (fun _ _ _ _ _ => (pg_name (i := 1) nd rfl (Or.inl rfl))) (fun _ _ _ _ _ => pts_nil) (fun _ _ _ _ _ => (pe_call F_read_whole hr rfl T.g_read_whole k_read_whole b_read_whole .nil pass0 (pa_cons (pv 1) pa_nil))))))), ?_⟩
  obtain ⟨ns, rfl, hok, q⟩ := h
  have hlen := hok.1
  have hll : (numsLine ns).length ≤ 6000 := by
    rw [numsLine_eq, len_tl, join_tl, tl_blank]
    have h1 := joinL_len (S := [32]) (m := 19) (ws := (numWs ns).map tl) fun w hw => by
      obtain ⟨z, hz, rfl⟩ := List.mem_map.mp hw
      exact (numWs_ok hok z hz).2
    have h2 := numWs_len hok
    rw [List.length_map] at h1
    have h3 : (numWs ns).length * (19 + 1) ≤ 201 * (19 + 1) := Nat.mul_le_mul_right _ h2
    exact Nat.le_trans h1 (by exact Nat.le_trans h3 (by decide))
  refine q_when (b := decide (ns = [])) (et_is (et_test (ev_op (ev_var rfl) ev_c (rv_eq rfl))) ?_) (fun hb H1 e1 => ?_) (fun hb H1 e1 => ?_)
  · refine decide_eq_decide.mpr ⟨fun z => ?_, fun z => by rw [z]; rfl⟩
    by_cases hne : ns = []
    · exact hne
    · exact absurd (V.str.inj z) (numsLine_dash hok hne)
  · rw [of_decide_eq_true hb] at q ⊢
    exact s_retL (el_lst ea_nil (by decide)) fun p H2 hp e2 h2 => q p H2 (fresh_back e1 hp) (e1.trans e2) h2
  · have hne := of_decide_eq_false hb
    refine s_retL (el_lcNM (xs := ns) (g := fun z => V.str (numS z)) V.int (j := 1) ?_ (by omega) (fun _ => rfl) fun z H2 e2 hz => ?_) fun p H2 hp e2 h2 => q p H2 (fresh_back e1 hp) (e1.trans e2) h2
    · have h1 := el_split (σ := [some (.str (numsLine ns)), none]) (H := H1) (to := tVar 0) (te := tC (.str " ")) (a := numsLine ns) (b := " ") (ev_var rfl) ev_c (by decide +kernel) (by omega)
      rw [numsLine_split hok] at h1
      unfold numWs at h1
      rw [if_neg hne, List.map_map] at h1
      exact h1
    · obtain ⟨z1, z2⟩ := hok.2 z hz
      obtain ⟨n, rfl⟩ : ∃ n : Nat, z = (n : Int) := ⟨z.toNat, by omega⟩
      exact ev_call (ea_cons (ev_var rfl) ea_nil) fun H3 e3 Q k E => ⟨n, rfl, by omega, k⟩
end Sv
namespace Sv
open PySem PySem.Spec PyProof.Rows L2 Evl TL
theorem ok_checked_roll {P : Program} {w : World} {K : PySem.W.Frag} {mg : Str → Option Value} {base : Heap} {k : Nat} (T : Top K mg)  :
    Ok P w K mg base (k + 1) (He.ga K "checked_roll") p_checked_roll (sp_checked_roll K) := by
  obtain ⟨fd, FD⟩ := T.d_checked_roll
  refine ⟨fd, FunD.ok FD sc_checked_roll (fun vs H Q E h => by obtain ⟨_, _, rfl, _⟩ := h; rfl) (fun cdv A outer s H vs Q E hr h => ?_), FD.bindsN fun _ _ _ _ _ _ us hl => match us, hl with | [_], _ => rfl, FD.kp⟩
  have nd := sc_checked_roll.nd
  have hu := hu_of hr
  refine ⟨_, PSs.nox (pss_cons (ps_for PassesOwn.never rfl (pi_enumK (K := K) (by rfl) T.f_enumerate (pa_cons (pv 0) pa_nil)) (pg_tupK (K := K) rfl (pgs_cons (pg_name (i := 1) nd rfl (Or.inl rfl)) (pgs_cons (pg_name (i := 2) nd rfl (Or.inl rfl)) pgs_nil)))
       (pss_one (ps_if (PW.pt (pw_or (pt_cmpR op_ge (pv 1) (pe_glob (v := .int 200) rfl T.c_MOST_CELLS_rolls.choose_spec ⟨_, rfl⟩) (nomark _)) (pw_or1 (pt_not (pt_chain op_le op_le pe_int (pv 2) (pe_glob (v := .int 1000000000000000000) rfl T.c_HEAVIEST.choose_spec ⟨_, rfl⟩))))))
         (pss_one ps_never) pss_nil)))
      (pss_one (ps_ret (pe_callTy (call_listK (K := K)) (by rfl) T.f_list (by decide +kernel) (pa_cons (pv 0) pa_nil))))), ?_⟩
  obtain ⟨a, ns, rfl, hS, hok, q⟩ := h
  have hlen := hok.1
  refine q_forE (ea_cons (ev_var rfl) ea_nil) hS (fun i σ' H' => ∃ v2 v3, σ' = [some (.ref a), v2, v3] ∧ Ex H H') ?_ ?_ ?_ ?_
  · exact fun H2 e2 => ⟨none, none, rfl, e2⟩
  · rintro i σ' H2 _ ⟨v2, v3, rfl, e2⟩
    exact ex_l e2 hS
  · rintro i x σ' H2 H2' hi ⟨v2, v3, rfl, e2⟩ eT
    obtain ⟨z, hz, rfl⟩ := map_get hi
    have hil := lt_of_get hz
    obtain ⟨z1, z2⟩ := hok.2 z (List.mem_of_getElem? hz)
    refine s_when (b := false) (et_is (et_or (a := false) (b := false) (et_is (et_test (ev_op (ev_var rfl) ev_c rv_I0)) (decide_eq_false (by omega))) fun _ => et_is (et_not (et_test (ev_chain (a := true) (b := true) ev_c (ev_var rfl) (rv_leT (by omega)) (fun _ => ev_c) (fun _ => rv_leT (by omega))))) rfl) rfl) (fun h => nomatch h) fun _ H3 e3 => ⟨_, _, rfl, (e2.trans eT).trans e3⟩
  · rintro σ' H2 ⟨v2, v3, rfl, e2⟩
    exact s_retL (el_list (ev_var rfl) (ex_l e2 hS)) fun p H3 hp e3 h3 => q p H3 (fresh_back e2 hp) (e2.trans e3) h3
end Sv
namespace Sv
open PySem PySem.Spec PyProof.Rows L2 Evl TL
theorem ok_read_roll {P : Program} {w : World} {K : PySem.W.Frag} {mg : Str → Option Value} {base : Heap} {k : Nat} (T : Top K mg) (O_read_numbers : Ok P w K mg base k (He.ga K "read_numbers") p_read_numbers (sp_read_numbers K)) (O_checked_roll : Ok P w K mg base k (He.ga K "checked_roll") p_checked_roll (sp_checked_roll K)) :
    Ok P w K mg base (k + 1) (He.ga K "read_roll") p_read_roll (sp_read_roll K) := by
  obtain ⟨fd_read_numbers, F_read_numbers, b_read_numbers, k_read_numbers⟩ := O_read_numbers
  obtain ⟨fd_checked_roll, F_checked_roll, b_checked_roll, k_checked_roll⟩ := O_checked_roll
  obtain ⟨fd, FD⟩ := T.d_read_roll
  refine ⟨fd, FunD.ok FD sc_read_roll (fun vs H Q E h => by obtain ⟨_, _, rfl, _⟩ := h; rfl) (fun cdv A outer s H vs Q E hr h => ?_), FD.bindsN fun _ _ _ _ _ _ us hl => match us, hl with | [_], _ => rfl, FD.kp⟩
  have nd := sc_read_roll.nd
  have hu := hu_of hr
  refine ⟨_, PSs.nox (pss_one (ps_try_thru0 (pss_one (ps_ret (pe_call F_checked_roll hr rfl T.g_checked_roll k_checked_roll b_checked_roll .nil pass0 (pa_cons (pe_call F_read_numbers hr rfl T.g_read_numbers k_read_numbers b_read_numbers .nil pass0 (pa_cons (pe_joinK (K := K) pe_str (pv 0)) pa_nil)) pa_nil)))))), ?_⟩
  obtain ⟨a, ns, rfl, hS, hok, q⟩ := h
  refine s_retL (el_callG1 (P := NewL (ns.map V.int)) (EvL.g (el_call (ea_cons (ev_join (ys := numWs ns) ev_c (ev_var rfl) hS ?_) ea_nil) fun H1 e1 Q k E => ⟨ns, by rw [numsLine_eq]; rfl, hok, k⟩)) fun H1 v H2 e1 p e2 H3 e3 Q k E => ?_) q
  · have h1 : ((numWs ns).map (·.length)).sum ≤ (numWs ns).length * 19 := sum_le fun x hx => by
      rw [len_tl]
      exact (numWs_ok hok x hx).2
    have h2 : (" " : Str).length = 1 := by decide +kernel
    have h3 := numWs_len hok
    rw [h2]
    omega
  · obtain ⟨p', rfl, _, hp⟩ := p
    exact ⟨p', ns, rfl, sq_of (e3 _ _ hp), hok, k⟩
end Sv
namespace Sv
open PySem PySem.Spec PyProof.Rows L2 Evl TL
theorem s_retTup3L {D : Ends} {σ : L2.St} {H : Hp} {ta tb te : TE} {x y : V} {xs : List V} (ha : Ev ta σ H x) (hb : Ev tb σ H y) (hc : EvL te σ H xs) (k : ∀ p H1 t, H p = none → Ex H H1 → H1 p = some (.lst xs) → H1 t = none → D.rt (.ref t) (upd H1 t (.tup [x, y, .ref p]))) : tRet (tTup (tCons ta (tCons tb (tCons te tNil)))) D σ H :=
  ha H (Ex.refl _) _ fun H1 e1 => hb H1 e1 _ fun H2 e2 => hc H2 (e1.trans e2) _ fun p H3 hp e3 h3 => ⟨(by show 3 ≤ sizeLine; decide), fun t ht => k p H3 t (fresh_back (e1.trans e2) hp) ((e1.trans e2).trans e3) h3 ht⟩
theorem cutV_one (x : V) (xs : List V) : cutV (x :: xs) (some 1) none = xs := by
  have h := cutV_drop (x :: xs) 1
  exact h
theorem ok_read_line {P : Program} {w : World} {K : PySem.W.Frag} {mg : Str → Option Value} {base : Heap} {k : Nat} (T : Top K mg) (O_read_table : Ok P w K mg base k (He.ga K "read_table") p_read_table (sp_read_table K)) (O_read_name : Ok P w K mg base k (He.ga K "read_name") p_read_name (sp_read_name K)) (O_read_roll : Ok P w K mg base k (He.ga K "read_roll") p_read_roll (sp_read_roll K)) :
    Ok P w K mg base (k + 1) (He.ga K "read_line") p_read_line (sp_read_line K) := by
  obtain ⟨fd_read_table, F_read_table, b_read_table, k_read_table⟩ := O_read_table
  obtain ⟨fd_read_name, F_read_name, b_read_name, k_read_name⟩ := O_read_name
  obtain ⟨fd_read_roll, F_read_roll, b_read_roll, k_read_roll⟩ := O_read_roll
  obtain ⟨fd, FD⟩ := T.d_read_line
  refine ⟨fd, FunD.ok FD sc_read_line (fun vs H Q E h => by obtain ⟨_, _, _, rfl, _⟩ := h; rfl) (fun cdv A outer s H vs Q E hr h => ?_), FD.bindsN fun _ _ _ _ _ _ us hl => match us, hl with | [_, _], _ => rfl, FD.kp⟩
  have nd := sc_read_line.nd
  have hu := hu_of hr
  refine ⟨_, PSs.nox (pss_cons (ps_set (i := 2) nd rfl (Or.inl rfl) (pe_splitN (pv 1) pe_str))
      (pss_cons (ps_par (by rfl) (i := 3) (j := 4) nd rfl rfl (by decide) rfl rfl (pa_cons (pe_ix (ix_listK (K := K)) (pv 2) pe_int (fun _ _ => rfl)) (pa_cons (pe_slice (sl_listK (K := K)) (pv 2) (po_some pe_int) po_none) pa_nil)) (by rfl))
      (pss_cons (ps_if (PW.pt (pw_and (pt_cmpR (op_in_seqK (K := K)) (pv 3) (pe_glob (v := .ref (He.ga K "LONE_WORDS")) rfl T.g_LONE_WORDS rfl) rfl) (pw_and1 (pt_cmpR op_eq (pe_callB (call_lenK (K := K)) (by rfl) T.f_len (by decide +kernel) (pa_cons (pv 4) pa_nil)) pe_int (nomark _)))))
       pss_never pss_nil)
      (pss_cons (ps_if (pt_cmpR op_eq (pv 3) pe_str (nomark _))
       (pss_one (ps_ret (pe_tup (pa_cons (pv 3) (pa_cons (pe_call F_read_table hr rfl T.g_read_table k_read_table b_read_table .nil pass0 (pa_cons (pe_joinK (K := K) pe_str (pv 4)) pa_nil)) pa_nil))))) pss_nil)
      (pss_cons (ps_if (pt_cmpR (op_in_seqK (K := K)) (pv 3) (pe_glob (v := .ref (He.ga K "ROLL_WORDS")) rfl T.g_ROLL_WORDS rfl) rfl)
       pss_never pss_nil)
      (pss_cons (ps_if (pt_cmpR op_eq (pv 3) pe_str (nomark _))
       pss_never pss_nil)
      (pss_cons (ps_if (PW.pt (pw_and (pt_cmpR op_eq (pv 3) pe_str (nomark _)) (pw_and1 (pt_cmpR op_eq (pe_callB (call_lenK (K := K)) (by rfl) T.f_len (by decide +kernel) (pa_cons (pv 4) pa_nil)) pe_int (nomark _)))))
       pss_never pss_nil)
      (pss_cons (ps_if (PW.pt (pw_and (pt_cmpR (op_in_seqK (K := K)) (pv 3) (pe_glob (v := .ref (He.ga K "NAME_WORDS")) rfl T.g_NAME_WORDS rfl) rfl) (pw_and1 (pt_cmpR op_eq (pe_callB (call_lenK (K := K)) (by rfl) T.f_len (by decide +kernel) (pa_cons (pv 4) pa_nil)) pe_int (nomark _)))))
       (pss_one (ps_ret (pe_tup (pa_cons (pv 3) (pa_cons (pe_call F_read_name hr rfl T.g_read_name k_read_name b_read_name .nil pass0 (pa_cons (pe_ix (ix_listK (K := K)) (pv 4) pe_int (fun _ _ => rfl)) pa_nil)) pa_nil))))) pss_nil)
      (pss_cons (ps_if (PW.pt (pw_and (pt_cmpR op_eq (pv 3) pe_str (nomark _)) (pw_and1 (pt_cmpR op_gt (pe_callB (call_lenK (K := K)) (by rfl) T.f_len (by decide +kernel) (pa_cons (pv 4) pa_nil)) pe_int (nomark _)))))
       (pss_one (ps_ret (pe_tup (pa_cons (pv 3) (pa_cons (pe_call F_read_name hr rfl T.g_read_name k_read_name b_read_name .nil pass0 (pa_cons (pe_ix (ix_listK (K := K)) (pv 4) pe_int (fun _ _ => rfl)) pa_nil)) (pa_cons (pe_call F_read_roll hr rfl T.g_read_roll k_read_roll b_read_roll .nil pass0 (pa_cons (pe_slice (sl_listK (K := K)) (pv 4) (po_some pe_int) po_none) pa_nil)) pa_nil)))))) pss_nil)
      (pss_cons (ps_if (PW.pt (pw_and (pt_cmpR op_eq (pv 3) pe_str (nomark _)) (pw_and1 (pt_cmpR op_gt (pe_callB (call_lenK (K := K)) (by rfl) T.f_len (by decide +kernel) (pa_cons (pv 4) pa_nil)) pe_int (nomark _)))))
       pss_never pss_nil)
      (pss_cons (ps_if (PW.pt (pw_and (pt_cmpR (op_in_seqK (K := K)) (pv 3) (pe_glob (v := .ref (He.ga K "NUMBER_ROLL_WORDS")) rfl T.g_NUMBER_ROLL_WORDS rfl) rfl) (pw_and1 (pt_cmpR op_gt (pe_callB (call_lenK (K := K)) (by rfl) T.f_len (by decide +kernel) (pa_cons (pv 4) pa_nil)) pe_int (nomark _)))))
       pss_never pss_nil)
      (pss_one ps_never)))))))))))), ?_⟩
  obtain ⟨tb, line, r, rfl, hline, hok, q⟩ := h
  have hws := Req.split hok hline
  have hll := Req.lineLen hok hline
  have hwl := Req.wsLen hok
  refine q_asgL (xs := r.ws.map V.str) (by rw [← hws]; exact el_split (ev_var rfl) ev_c (by decide +kernel) (by omega)) fun w H1 hw e1 h1 => ?_
  obtain ⟨first, rest, hr⟩ : ∃ f rs, r.ws = f :: rs := by cases r <;> exact ⟨_, _, rfl⟩
  rw [hr] at h1
  -- first, rest = words[0], words[1:]
  refine ev_op (σ := (start N_read_line [V.ref tb, V.str line]).set 2 (some (.ref w))) (ev_var rfl) ev_c (rv_ixL (sq_of h1) (v := V.str first) (at_int (j := 0) rfl rfl)) H1 (Ex.refl _) _ fun H2 e2 => ?_
  refine el_sl (ev_var rfl) (eo_some ev_c) eo_none (sq_of h1) H2 e2 _ fun rs H3 hrs e3 h3 => ?_
  rw [List.map_cons, cutV_one] at h3
  refine ⟨_, _, rfl, ?_⟩
  have e13 := (e1.trans e2).trans e3
  have hS3 : SqL K H3 rs (rest.map V.str) := sq_of h3
  have lenR : ∀ {H' : Hp}, Ex H3 H' → ∀ {σ' : L2.St} {ta : TE}, Ev ta σ' H' (.ref rs) → Ev (tCB (rLenS K) (tCons ta tNil)) σ' H' (.int (rest.length : Int)) := fun {_} e {_} {_} h => ev_is (ev_len h (ex_l e hS3)) (congrArg V.int (by rw [List.length_map]))
  have joinR : ∀ {H' : Hp}, Ex H3 H' → ∀ {σ' : L2.St} {ta : TE}, Ev ta σ' H' (.ref rs) → Ev (tM1 (rJoin K) (tC (.str " ")) ta) σ' H' (.str (Txt.join " " rest)) := fun {_} e {_} {_} h => ev_join ev_c h (ex_l e hS3) (by
    have g1 : (rest.map (·.length)).sum ≤ rest.length * 19 := sum_le fun x hx => by
      rw [len_tl]
      exact (Req.wsOk hok x (by rw [hr]; exact List.mem_cons_of_mem _ hx)).2
    have g2 : (" " : Str).length = 1 := by decide +kernel
    rw [hr, List.length_cons] at hwl
    rw [g2]
    omega)
  have inLone : ∀ {H' : Hp}, ∀ {σ' : L2.St} {ta : TE}, Ev ta σ' H' (.str first) → inV (.str first) LONE = false → EvT (tTest (tOp (rIn K false) ta (tC (.ref (He.ga K "LONE_WORDS"))))) σ' H' false := fun h hf => et_is (et_test (ev_op h ev_c (rv_isT (T.t_LONE_WORDS _) rfl rfl))) hf
  have inRoll : ∀ {H' : Hp}, ∀ {σ' : L2.St} {ta : TE}, Ev ta σ' H' (.str first) → inV (.str first) ROLLW = false → EvT (tTest (tOp (rIn K false) ta (tC (.ref (He.ga K "ROLL_WORDS"))))) σ' H' false := fun h hf => et_is (et_test (ev_op h ev_c (rv_isT (T.t_ROLL_WORDS _) rfl rfl))) hf
  have inName : ∀ {H' : Hp} {b : Bool}, ∀ {σ' : L2.St} {ta : TE}, Ev ta σ' H' (.str first) → inV (.str first) NAMEW = b → EvT (tTest (tOp (rIn K false) ta (tC (.ref (He.ga K "NAME_WORDS"))))) σ' H' b := fun h hf => et_is (et_test (ev_op h ev_c (rv_isT (T.t_NAME_WORDS _) rfl rfl))) hf
  cases r with
  | table tab =>
    have ef : ("table" : Str) = first := (List.cons.inj hr).1
    have er : tabWs tab = rest := (List.cons.inj hr).2
    subst ef er
    refine q_when (and_false1 (inLone (ev_var rfl) (by decide +kernel))) (fun h => nomatch h) fun _ H4 e4 => ?_
    refine q_when (eqs_true (K := K) (ev_var rfl)) (fun _ H5 e5 => ?_) fun h => nomatch h
    have e35 := e4.trans e5
    have ej : Txt.join " " (tabWs tab) = tabLine tab := ext_tl (by rw [join_tl, tl_blank, tabWs_tl])
    refine s_retTup2 (EvG.of (ev_var rfl)) (eg_call (ea_cons (joinR e35 (ev_var rfl)) ea_nil) (fun H6 e6 Q k E => ⟨tab, by rw [ej]; rfl, hok, k⟩) fun _ _ _ _ e p => newR_back _ _ _ _ e p) fun v w' H6 H7 p e6 p6 e7 p7 hp => ?_
    subst p6
    obtain ⟨ta, rfl, hta, hR⟩ := p7
    have e16 := e13.trans (e35.trans e6)
    exact q p _ ((e16.trans e7).trans (Ex.new hp)) ⟨ta, upd_same, fresh_back e16 hta, hR.mono (Ex.new hp)⟩
  | word w' n =>
    have ef : w' = first := (List.cons.inj hr).1
    have er : [n] = rest := (List.cons.inj hr).2
    subst ef er
    obtain ⟨hw', hn⟩ := hok
    obtain ⟨f1, f2, f3, f4, f5, f6⟩ := word_facts w' hw'
    refine q_when (and_false1 (inLone (ev_var rfl) f1)) (fun h => nomatch h) fun _ H4 e4 => ?_
    refine q_when (eqs_false (K := K) (ev_var rfl) f2) (fun h => nomatch h) fun _ H5 e5 => ?_
    refine q_when (inRoll (ev_var rfl) f3) (fun h => nomatch h) fun _ H6 e6 => ?_
    refine q_when (eqs_false (K := K) (ev_var rfl) f4) (fun h => nomatch h) fun _ H7 e7 => ?_
    refine q_when (and_false1 (eqs_false (K := K) (ev_var rfl) f5)) (fun h => nomatch h) fun _ H8 e8 => ?_
    have e38 := (e4.trans e5).trans ((e6.trans e7).trans e8)
    refine q_when (b := true) (et_is (et_and (inName (ev_var rfl) f6) fun _ => et_test (ev_op (lenR e38 (ev_var rfl)) ev_c (rv_eq rfl))) rfl) (fun _ H9 e9 => ?_) fun h => nomatch h
    refine s_retU (eu_tup (vs := [.str w', .str n]) (ea_cons (ev_var rfl) (ea_cons (ev_call (ea_cons (ev_op (ev_var rfl) ev_c (rv_ixL (ex_l (e38.trans e9) hS3) (at_int (j := 0) rfl rfl))) ea_nil) fun H3 e3 Q k E => ⟨n, rfl, hn, k⟩) ea_nil)) (by show 2 ≤ 100000; decide)) fun p HA hp eA hA => ?_
    exact q p HA (e13.trans ((e38.trans e9).trans eA)) hA
  | take n ns =>
    have ef : ("take" : Str) = first := (List.cons.inj hr).1
    have er : n :: numWs ns = rest := (List.cons.inj hr).2
    subst ef er
    obtain ⟨hn, hc⟩ := hok
    refine q_when (and_false1 (inLone (ev_var rfl) (by decide +kernel))) (fun h => nomatch h) fun _ H4 e4 => ?_
    refine q_when (eqs_false (K := K) (ev_var rfl) (by decide +kernel)) (fun h => nomatch h) fun _ H5 e5 => ?_
    refine q_when (inRoll (ev_var rfl) (by decide +kernel)) (fun h => nomatch h) fun _ H6 e6 => ?_
    refine q_when (eqs_false (K := K) (ev_var rfl) (by decide +kernel)) (fun h => nomatch h) fun _ H7 e7 => ?_
    refine q_when (and_false1 (eqs_false (K := K) (ev_var rfl) (by decide +kernel))) (fun h => nomatch h) fun _ H8 e8 => ?_
    have e38 := (e4.trans e5).trans ((e6.trans e7).trans e8)
    refine q_when (and_false1 (inName (b := false) (ev_var rfl) (by decide +kernel))) (fun h => nomatch h) fun _ H9 e9 => ?_
    have e39 := e38.trans e9
    refine q_when (b := true) (et_is (et_and (a := true) (eqs_true (K := K) (ev_var rfl)) fun _ => et_is (et_test (ev_op (lenR e39 (ev_var rfl)) ev_c rv_I0)) (b := true) (decide_eq_true ?_)) rfl) (fun _ HA eA => ?_) fun h => nomatch h
    · have : 1 ≤ (numWs ns).length := by
        unfold numWs
        split
        · simp
        · rename_i hne
          rw [List.length_map]
          exact List.length_pos_iff.mpr hne
      rw [List.length_cons]
      omega
    · have e3A := e39.trans eA
      have hSA := ex_l e3A hS3
      refine s_retTup3L (x := .str "take") (y := .str n) (xs := ns.map V.int) (ev_var rfl) (ev_call (ea_cons (ev_op (ev_var rfl) ev_c (rv_ixL hSA (at_int (j := 0) rfl rfl))) ea_nil) fun H3 e3 Q k E => ⟨n, rfl, hn, k⟩) (el_callG1 (P := NewL ((numWs ns).map V.str)) (EvL.g (el_is (el_sl (ev_var rfl) (eo_some ev_c) eo_none hSA) (by rw [List.map_cons, cutV_one]))) (fun H1 v H2 e1 p e2 H3 e3 Q k E => ?_)) fun rl HD p hrl eD hD hp => ?_
      · obtain ⟨p', rfl, _, hp⟩ := p
        exact ⟨p', ns, rfl, sq_of (e3 _ _ hp), hc, k⟩
      · have eall := e13.trans e3A
        refine q p _ ((eall.trans eD).trans (Ex.new hp)) ⟨rl, upd_same, fresh_back eall hrl, ?_⟩
        rw [upd_ne (ne_of_none hD hp)]
        exact hD
end Sv
namespace Sv
open PySem PySem.Spec PyProof.Rows L2 Evl TL
theorem ok_Feed_init {P : Program} {w : World} {K : PySem.W.Frag} {mg : Str → Option Value} {base : Heap} {k : Nat} (T : Top K mg)  :
    Ok P w K mg base (k + 1) (He.ma K (He.ga K "Feed") "__init__") p_Feed_init (sp_Feed_init K) := by
  obtain ⟨fd, FD⟩ := T.d_Feed_init
  refine ⟨fd, FunD.ok FD sc_Feed_init (fun vs H Q E h => by obtain ⟨_, _, _, _, rfl, _⟩ := h; rfl) (fun cdv A outer s H vs Q E hr h => ?_), FD.bindsN fun _ _ _ _ _ _ us hl => match us, hl with | [_, _], _ => rfl, FD.kp⟩
  have nd := sc_Feed_init.nd
  have hu := hu_of hr
  refine ⟨_, PSs.nox (pss_cons (ps_fldK (K := K) (pv 0) (pe_callTy (call_listK (K := K)) (by rfl) T.f_list (by decide +kernel) (pa_cons (pv 1) pa_nil)) rfl)
      (pss_cons (ps_fldK (K := K) (pv 0) (pe_lst pa_nil) rfl)
      (pss_cons (ps_fldK (K := K) (pv 0) pe_int rfl)
      (pss_one (ps_fldK (K := K) (pv 0) pe_bl rfl))))), ?_⟩
  obtain ⟨p, dx, tb, tab, rfl, hp, hTb, q⟩ := h
  obtain ⟨ts, hB, hA⟩ := id hTb
  refine q_fldG (EvL.g (el_list (ev_var rfl) hB)) (ev_var rfl) hp T.cl_Feed T.n_Feed_table (by show 0 < 1000; decide) fun v H1 H2 e1 p1 e2 => ?_
  obtain ⟨tl, rfl, htl, h1⟩ := p1
  have ntp : tl ≠ p := (ne_of_none hp htl).symm
  have b2 : ExB p H (upd H2 p (.ins (CF K) dx (putF "table" (.ref tl) []))) := (Ex.b (e1.trans e2) p).upd _
  have h2 : (upd H2 p (.ins (CF K) dx (putF "table" (.ref tl) []))) tl = some (.lst (ts.map V.ref)) := by rw [upd_ne ntp]; exact e2 _ _ h1
  have o2 : (upd H2 p (.ins (CF K) dx (putF "table" (.ref tl) []))) p = some (.ins (CF K) dx (putF "table" (.ref tl) [])) := upd_same
  generalize upd H2 p (.ins (CF K) dx (putF "table" (.ref tl) [])) = G2 at b2 h2 o2 ⊢
  refine q_fldG (EvL.g (el_lst ea_nil (by decide))) (ev_var rfl) o2 T.cl_Feed T.n_Feed_came (by show 1 < 1000; decide) fun v H3 H4 e3 p3 e4 => ?_
  obtain ⟨cl, rfl, hcl, h3⟩ := p3
  have ncp : cl ≠ p := (ne_of_none o2 hcl).symm
  have ncl : tl ≠ cl := ne_of_none h2 hcl
  have hclH : H cl = none := by
    cases q9 : H cl with
    | none => rfl
    | some o =>
      rw [b2 _ _ q9 ncp] at hcl
      cases hcl
  refine q_fld (ev_c (v := .int 0)) (ev_var rfl) upd_same T.cl_Feed T.n_Feed_known (by show 2 < 1000; decide) fun H5 e5 => ?_
  refine s_fld (ev_c (v := .bl false)) (ev_var rfl) upd_same T.cl_Feed T.n_Feed_ended (by show 3 < 1000; decide) fun H6 e6 => ?_
  have e9 := ff_new tl cl
  have key : ∀ a o, G2 a = some o → a ≠ p → (upd H6 p (.ins (CF K) dx (putF "ended" (.bl false) (putF "known" (.int 0) (putF "came" (.ref cl) (putF "table" (.ref tl) [])))))) a = some o := fun a o ha hn => by
    rw [upd_ne hn]
    refine e6 _ _ ?_
    rw [upd_ne hn]
    refine e5 _ _ ?_
    rw [upd_ne hn]
    exact (e3.trans e4) _ _ ha
  have kcl : (upd H6 p (.ins (CF K) dx (putF "ended" (.bl false) (putF "known" (.int 0) (putF "came" (.ref cl) (putF "table" (.ref tl) [])))))) cl = some (.lst []) := by
    rw [upd_ne ncp]
    refine e6 _ _ ?_
    rw [upd_ne ncp]
    refine e5 _ _ ?_
    rw [upd_ne ncp]
    exact e4 _ _ h3
  have bfin : ExB p H (upd H6 p (.ins (CF K) dx (putF "ended" (.bl false) (putF "known" (.int 0) (putF "came" (.ref cl) (putF "table" (.ref tl) [])))))) := fun a o ha hn => key a o (b2 a o ha hn) hn
  refine q cl tl _ hclH htl ⟨_, key _ _ h2 ntp⟩ ⟨?_, kcl, ⟨ts, sq_of (key _ _ h2 ntp), ?_⟩, ncl⟩ bfin
  · rw [upd_same, e9]
  · obtain ⟨ts', hB', hA'⟩ := bfin.rowsL ⟨ts, hB, hA⟩ hp
    refine hA.mono fun t r z => ?_
    rcases z with (h | ⟨o, h⟩) | h
    · exact .inl (.inl (bfin _ _ h fun e => by rw [e, hp] at h; cases h))
    · exact .inl (.inr ⟨o, bfin _ _ h fun e => by rw [e, hp] at h; cases h⟩)
    · exact .inr h
end Sv
namespace Sv
open PySem PySem.Spec PyProof.Rows L2 Evl TL
theorem ok_Feed_closed {P : Program} {w : World} {K : PySem.W.Frag} {mg : Str → Option Value} {base : Heap} {k : Nat} (T : Top K mg)  :
    Ok P w K mg base (k + 1) (He.ma K (He.ga K "Feed") "closed") p_Feed_closed (sp_Feed_closed K) := by
  obtain ⟨fd, FD⟩ := T.d_Feed_closed
  refine ⟨fd, FunD.ok FD sc_Feed_closed (fun vs H Q E h => by obtain ⟨_, _, _, _, _, _, rfl, _⟩ := h; rfl) (fun cdv A outer s H vs Q E hr h => ?_), FD.bindsN fun _ _ _ _ _ _ us hl => match us, hl with | [_], _ => rfl, FD.kp⟩
  have nd := sc_Feed_closed.nd
  have hu := hu_of hr
  refine ⟨_, PSs.nox (pss_one (ps_ret (pe_fldK (K := K) (pv 0) rfl))), ?_⟩
  obtain ⟨f, cl, tl, dx, tab, s, rfl, F, q⟩ := h
  exact s_ret (ev_fld (ev_var rfl) F.ob T.cl_Feed T.n_Feed_ended (ff_ended _ _ _ _)) fun H1 e1 => q H1 e1
end Sv
namespace Sv
open PySem PySem.Spec PyProof.Rows L2 Evl TL
theorem ok_Feed_cells {P : Program} {w : World} {K : PySem.W.Frag} {mg : Str → Option Value} {base : Heap} {k : Nat} (T : Top K mg)  :
    Ok P w K mg base (k + 1) (He.ma K (He.ga K "Feed") "cells") p_Feed_cells (sp_Feed_cells K) := by
  obtain ⟨fd, FD⟩ := T.d_Feed_cells
  refine ⟨fd, FunD.ok FD sc_Feed_cells (fun vs H Q E h => by obtain ⟨_, _, _, _, _, _, rfl, _⟩ := h; rfl) (fun cdv A outer s H vs Q E hr h => ?_), FD.bindsN fun _ _ _ _ _ _ us hl => match us, hl with | [_], _ => rfl, FD.kp⟩
  have nd := sc_Feed_cells.nd
  have hu := hu_of hr
  refine ⟨_, PSs.nox (pss_one (ps_ret (pe_callTy (call_listK (K := K)) (by rfl) T.f_list (by decide +kernel) (pa_cons (pe_fldK (K := K) (pv 0) rfl) pa_nil)))), ?_⟩
  obtain ⟨f, cl, tl, dx, tab, s, rfl, F, q⟩ := h
  exact s_retL (el_list (ev_fld (ev_var rfl) F.ob T.cl_Feed T.n_Feed_came (ff_came _ _ _ _)) (sq_of F.came)) q
end Sv
namespace Sv
open PySem PySem.Spec PyProof.Rows L2 Evl TL
theorem ok_Feed_still_open {P : Program} {w : World} {K : PySem.W.Frag} {mg : Str → Option Value} {base : Heap} {k : Nat} (T : Top K mg)  :
    Ok P w K mg base (k + 1) (He.ma K (He.ga K "Feed") "still_open") p_Feed_still_open (sp_Feed_still_open K) := by
  obtain ⟨fd, FD⟩ := T.d_Feed_still_open
  refine ⟨fd, FunD.ok FD sc_Feed_still_open (fun vs H Q E h => by obtain ⟨_, _, _, _, _, _, rfl, _⟩ := h; rfl) (fun cdv A outer s H vs Q E hr h => ?_), FD.bindsN fun _ _ _ _ _ _ us hl => match us, hl with | [_], _ => rfl, FD.kp⟩
  have nd := sc_Feed_still_open.nd
  have hu := hu_of hr
  refine ⟨_, PSs.nox (pss_one (ps_if (pt_val (pe_fldK (K := K) (pv 0) rfl))
       (pss_one ps_never) pss_nil)), ?_⟩
  obtain ⟨f, cl, tl, dx, tab, s, rfl, F, hf, q⟩ := h
  exact s_when (et_B (ev_fld (ev_var rfl) F.ob T.cl_Feed T.n_Feed_ended (ff_ended _ _ _ _))) (fun hb => by rw [hf] at hb; cases hb) fun _ H1 e1 => q H1 e1
end Sv
namespace Sv
open PySem PySem.Spec PyProof.Rows L2 Evl TL
theorem ok_running_sums {P : Program} {w : World} {K : PySem.W.Frag} {mg : Str → Option Value} {base : Heap} {k : Nat} (T : Top K mg)  :
    Ok P w K mg base (k + 1) (He.ga K "running_sums") p_running_sums (sp_running_sums K) := by
  obtain ⟨fd, FD⟩ := T.d_running_sums
  refine ⟨fd, FunD.ok FD sc_running_sums (fun vs H Q E h => by obtain ⟨_, _, rfl, _⟩ := h; rfl) (fun cdv A outer s H vs Q E hr h => ?_), FD.bindsN fun _ _ _ _ _ _ us hl => match us, hl with | [_], _ => rfl, FD.kp⟩
  have nd := sc_running_sums.nd
  have hu := hu_of hr
  refine ⟨_, PSs.nox (pss_cons (ps_set (i := 1) nd rfl (Or.inl rfl) (pe_lst (pa_cons pe_int pa_nil)))
      (pss_cons (ps_for PassesOwn.never rfl (pi_listK (K := K) (pv 0)) (pg_name (i := 2) nd rfl (Or.inl rfl))
       (pss_one (ps_expr (pe_bmK (K := K) PySem.F.plainAttrs_list PySem.F.slot_list_append PySem.F.type_list_append mt_append (pv 1) (pa_cons (pe_op op_add (pe_ix (ix_listK (K := K)) (pv 1) (pe_un un_neg pe_int) (fun _ _ => rfl)) (pv 2)) pa_nil)))))
      (pss_one (ps_ret (pv 1))))), ?_⟩
  obtain ⟨a, ns, rfl, hS, hl, q⟩ := h
  refine q_asgL (el_lst (ea_cons ev_c ea_nil) (by decide)) fun p H1 hp e1 h1 => ?_
  refine q_forLn (ev_var rfl) (ex_l e1 hS) (fun i σ' H' => ∃ v, σ' = [some (.ref a), some (.ref p), v] ∧ Ex H H' ∧ H' p = some (.lst (((List.range (i + 1)).map (sm ns)).map V.int))) ?_ ?_ ?_ ?_
  · exact fun H2 e2 => ⟨none, rfl, e1.trans e2, e2 _ _ h1⟩
  · rintro i σ' H' _ ⟨v, rfl, e, hq⟩
    exact ex_l e hS
  · rintro i x σ' H' hi ⟨v, rfl, e, hq⟩
    obtain ⟨c, hc, rfl⟩ := map_get hi
    have hi2 := lt_of_get hc
    refine s_app (xs := ((List.range (i + 1)).map (sm ns)).map V.int) hq (ev_var rfl) (ev_op (x := V.int (sm ns i)) (y := V.int c) (ev_op (ev_var rfl) (ev_un ev_c ru_neg) (rv_ixL (sq_of hq) (atI_neg1 (n := i) (by simp) (get_map (get_map (range_get (by omega))))))) (ev_var rfl) rv_I0) (by simp; omega) fun H2 e2 => ?_
    refine ⟨_, rfl, Ex.mut (e.trans e2) hp, ?_⟩
    rw [upd_same, List.range_succ (n := i + 1), List.map_append, List.map_append]
    simp only [List.map_cons, List.map_nil]
    rw [sm_succ hc]
  · rintro σ' H' ⟨v, rfl, e, hq⟩
    refine s_ret (ev_var rfl) fun H2 e2 => q p H2 hp (e.trans e2) (e2 _ _ ?_)
    rw [hq, List.length_map]
    rfl
end Sv
namespace Sv
open PySem PySem.Spec PyProof.Rows L2 Evl TL
theorem ok_ends_well {P : Program} {w : World} {K : PySem.W.Frag} {mg : Str → Option Value} {base : Heap} {k : Nat} (T : Top K mg)  :
    Ok P w K mg base (k + 1) (He.ga K "ends_well") p_ends_well (sp_ends_well K) := by
  obtain ⟨fd, FD⟩ := T.d_ends_well
  refine ⟨fd, FunD.ok FD sc_ends_well (fun vs H Q E h => by obtain ⟨_, _, _, _, _, rfl, _⟩ := h; rfl) (fun cdv A outer s H vs Q E hr h => ?_), FD.bindsN fun _ _ _ _ _ _ us hl => match us, hl with | [_, _, _], _ => rfl, FD.kp⟩
  have nd := sc_ends_well.nd
  have hu := hu_of hr
  refine ⟨_, PSs.nox (pss_cons (ps_set (i := 3) nd rfl (Or.inl rfl) (pe_op op_sub (pv 2) (pe_ix (ix_tupK (K := K)) (pv 1) pe_int (fun _ _ => rfl))))
      (pss_one (ps_ret (pe_and (pe_cmpR op_ge (pv 3) pe_int (nomark _)) (pe_one (pe_cmpR op_le (pe_op op_sub (pe_ix (ix_listK (K := K)) (pv 0) (pv 2) (fun _ _ => rfl)) (pe_ix (ix_listK (K := K)) (pv 0) (pv 3) (fun _ _ => rfl))) (pe_ix (ix_tupK (K := K)) (pv 1) pe_int (fun _ _ => rfl)) (nomark _))))))), ?_⟩
  obtain ⟨s, t, e, ns, kd, rfl, hS, hT, he, q⟩ := h
  refine q_asg (ev_op (ev_var rfl) (ev_op (ev_var rfl) ev_c (rv_ixT hT (kind_at1 kd))) rv_I0) fun H1 e1 => ?_
  by_cases hw : kd.width ≤ e
  · have ez : (e : Int) - (kd.width : Int) = ((e - kd.width : Nat) : Int) := by omega
    refine s_ret (ev_is (ev_andV (a := true) (b := decide (sm ns e - sm ns (e - kd.width) ≤ kd.allowed)) (ev_is (ev_op (ev_var rfl) ev_c rv_I0) (by rw [decide_eq_true (by omega)])) fun _ => ev_op (ev_op (ev_op (ev_var rfl) (ev_var rfl) (rv_ixL (ex_l e1 hS) (sums_at rfl he))) (ev_op (ev_var rfl) (ev_var rfl) (rv_ixL (ex_l e1 hS) (sums_at ez (by omega)))) rv_I0) (ev_op (ev_var rfl) ev_c (rv_ixT (ex_t e1 hT) (kind_at3 kd))) rv_I0) ?_) fun H2 e2 => q H2 (e1.trans e2)
    unfold good
    rw [decide_eq_true hw, decide_eq_true he]
    rfl
  · refine s_ret (ev_is (ev_andV (a := false) (b := false) (ev_is (ev_op (ev_var rfl) ev_c rv_I0) (by rw [decide_eq_false (by omega)])) fun h => nomatch h) ?_) fun H2 e2 => q H2 (e1.trans e2)
    unfold good
    rw [decide_eq_false hw]
    rfl
end Sv
namespace Sv
open PySem PySem.Spec PyProof.Rows L2 Evl TL
theorem ok_heights {P : Program} {w : World} {K : PySem.W.Frag} {mg : Str → Option Value} {base : Heap} {k : Nat} (T : Top K mg) (O_running_sums : Ok P w K mg base k (He.ga K "running_sums") p_running_sums (sp_running_sums K)) (O_ends_well : Ok P w K mg base k (He.ga K "ends_well") p_ends_well (sp_ends_well K)) :
    Ok P w K mg base (k + 1) (He.ga K "heights") p_heights (sp_heights K) := by
  obtain ⟨fd_running_sums, F_running_sums, b_running_sums, k_running_sums⟩ := O_running_sums
  obtain ⟨fd_ends_well, F_ends_well, b_ends_well, k_ends_well⟩ := O_ends_well
  obtain ⟨fd, FD⟩ := T.d_heights
  refine ⟨fd, FunD.ok FD sc_heights (fun vs H Q E h => by obtain ⟨_, _, _, _, rfl, _⟩ := h; rfl) (fun cdv A outer s H vs Q E hr h => ?_), FD.bindsN fun _ _ _ _ _ _ us hl => match us, hl with | [_, _], _ => rfl, FD.kp⟩
  have nd := sc_heights.nd
  have hu := hu_of hr
  refine ⟨_, PSs.nox (pss_cons (ps_set (i := 2) nd rfl (Or.inl rfl) (pe_call F_running_sums hr rfl T.g_running_sums k_running_sums b_running_sums .nil pass0 (pa_cons (pv 0) pa_nil)))
      (pss_cons (ps_set (i := 3) nd rfl (Or.inl rfl) (pe_lst (pa_cons pe_int pa_nil)))
      (pss_cons (ps_for PassesOwn.never rfl (pi_range2 rfl T.f_range (pa_cons pe_int (pa_cons (pe_callB (call_lenK (K := K)) (by rfl) T.f_len (by decide +kernel) (pa_cons (pv 2) pa_nil)) pa_nil))) (pg_name (i := 4) nd rfl (Or.inl rfl))
       (pss_cons (ps_set (i := 5) nd rfl (Or.inl rfl) (pe_ix (ix_listK (K := K)) (pv 3) (pe_un un_neg pe_int) (fun _ _ => rfl)))
        (pss_cons (ps_for PassesOwn.never rfl (pi_listK (K := K) (pv 1)) (pg_name (i := 6) nd rfl (Or.inl rfl))
         (pss_one (ps_if (pt_val (pe_call F_ends_well hr rfl T.g_ends_well k_ends_well b_ends_well .nil pass0 (pa_cons (pv 2) (pa_cons (pv 6) (pa_cons (pv 4) pa_nil)))))
           (pss_one (ps_set (i := 5) nd rfl (Or.inl rfl) (pe_callB (call_max2 rfl) (by rfl) T.f_max (by decide +kernel) (pa_cons (pv 5) (pa_cons (pe_op op_add (pe_ix (ix_listK (K := K)) (pv 3) (pe_op op_sub (pv 4) (pe_ix (ix_tupK (K := K)) (pv 6) pe_int (fun _ _ => rfl))) (fun _ _ => rfl)) (pe_ix (ix_tupK (K := K)) (pv 6) pe_int (fun _ _ => rfl))) pa_nil))))) pss_nil)))
        (pss_one (ps_expr (pe_bmK (K := K) PySem.F.plainAttrs_list PySem.F.slot_list_append PySem.F.type_list_append mt_append (pv 3) (pa_cons (pv 5) pa_nil)))))))
      (pss_one (ps_ret (pv 3)))))), ?_⟩
  obtain ⟨a, b, ns, tab, rfl, hS, hTb, hl, W, q⟩ := h
  obtain ⟨ts, hB, hA⟩ := id hTb
  refine q_asgL (el_call (ea_cons (ev_var rfl) ea_nil) fun H1 e Q k E => ⟨a, ns, rfl, ex_l e hS, hl, k⟩) fun s H1 hs e1 h1 => ?_
  refine q_asgL (el_lst (ea_cons ev_c ea_nil) (by decide)) fun t H2 ht e2 h2 => ?_
  refine q_forR2 (ea_cons ev_c (ea_cons (ev_len (ev_var rfl) (sq_of (e2 _ _ h1))) ea_nil)) (by rw [List.length_map, sums_len]; omega) (fun i σ' H' => ∃ v4 v5 v6, σ' = [some (.ref a), some (.ref b), some (.ref s), some (.ref t), v4, v5, v6] ∧ Ex H1 H' ∧ H' t = some (.lst ((hlist ns tab i).map V.int))) ?_ ?_ ?_
  · exact fun H3 e3 => ⟨none, none, none, rfl, e2.trans e3, e3 _ _ h2⟩
  · rintro i σ' H3 hi ⟨v4, v5, v6, rfl, e3, hq⟩
    rw [List.length_map, sums_len] at hi
    have ei : (1 : Int) + (i : Int) = ((i + 1 : Nat) : Int) := by omega
    rw [ei]
    refine q_asg (ev_op (ev_var rfl) (ev_un ev_c ru_neg) (rv_ixL (sq_of hq) (hl_last ns tab i))) fun H4 e4 => ?_
    refine q_forLn (ev_var rfl) (ex_l ((e1.trans e3).trans e4) hB) (fun j σ' H' => ∃ v6, σ' = [some (.ref a), some (.ref b), some (.ref s), some (.ref t), some (.int ((i + 1 : Nat) : Int)), some (.int ((tab.take j).foldl (hturn ns (hlist ns tab i) (i + 1)) (hgt ns tab i))), v6] ∧ Ex H1 H' ∧ H' t = some (.lst ((hlist ns tab i).map V.int))) ?_ ?_ ?_ ?_
    · exact fun H5 e5 => ⟨v6, rfl, (e3.trans e4).trans e5, (e4.trans e5) _ _ hq⟩
    · rintro j σ' H' _ ⟨v6, rfl, e5, _⟩
      exact ex_l (e1.trans e5) hB
    · rintro j x σ' H5 hj ⟨v6, rfl, e5, hq5⟩
      obtain ⟨tk, htk, rfl⟩ := map_get hj
      obtain ⟨row, hrow, hT⟩ := hA.get' htk
      obtain ⟨kd, hkd, rfl⟩ := map_get hrow
      have hT5 := ex_t (e1.trans e5) hT
      have hw := W kd (List.mem_of_getElem? hkd)
      have hS5 : SqL K H5 s ((sums ns).map V.int) := sq_of (e5 _ _ h1)
      refine s_ifAsg (b := good ns kd (i + 1)) (v := .int (hturn ns (hlist ns tab i) (i + 1) ((tab.take j).foldl (hturn ns (hlist ns tab i) (i + 1)) (hgt ns tab i)) kd)) (et_B (ev_call (ea_cons (ev_var rfl) (ea_cons (ev_var rfl) (ea_cons (ev_var rfl) ea_nil))) fun H6 e6 Q k E => ⟨s, tk, i + 1, ns, kd, rfl, ex_l e6 hS5, ex_t e6 hT5, by omega, k⟩)) (fun hg => ?_) (fun hg => ?_) fun H6 e6 => ?_
      · obtain ⟨g1, _, _⟩ := good_iff.mp hg
        refine ev_is (ev_max2 (ev_var rfl) (ev_op (ev_op (ev_var rfl) (ev_op (ev_var rfl) (ev_op (ev_var rfl) ev_c (rv_ixT hT5 (kind_at1 kd))) rv_I0) (rv_ixL (sq_of hq5) (hl_at (j := i + 1 - kd.width) (by omega) (by omega)))) (ev_op (ev_var rfl) ev_c (rv_ixT hT5 (kind_at2 kd))) rv_I0)) ?_
        unfold hturn
        rw [if_pos hg, hlist_getD (by omega)]
        exact congrArg V.int (by omega)
      · unfold hturn
        rw [hg, if_neg Bool.false_ne_true]
        rfl
      · refine ⟨some (V.ref tk), ?_, e5.trans e6, e6 _ _ hq5⟩
        rw [List.take_succ_eq_append_getElem (lt_of_get hkd), List.foldl_append, (List.getElem?_eq_some_iff.mp hkd).2]
        rfl
    · rintro σ' H5 ⟨v6, rfl, e5, hq5⟩
      refine s_app (xs := (hlist ns tab i).map V.int) hq5 (ev_var rfl) (ev_var rfl) (by rw [List.length_map, hlist_length]; omega) fun H6 e6 => ?_
      refine ⟨_, _, _, rfl, Ex.mut (e5.trans e6) ht, ?_⟩
      have el : (ts.map V.ref).length = tab.length := by rw [List.length_map, hA.length, List.length_map]
      rw [upd_same, el, List.take_length, hlist, List.map_append]
      rfl
  · rintro σ' H3 ⟨v4, v5, v6, rfl, e3, hq⟩
    refine s_ret (ev_var rfl) fun H4 e4 => q t H4 (fresh_back e1 ht) ((e1.trans e3).trans e4) (e4 _ _ ?_)
    rw [hq, List.length_map, sums_len]
    have en : ((((ns.length + 1 : Nat) : Int)) - 1).toNat = ns.length := by omega
    rw [en]
end Sv
namespace Sv
open PySem PySem.Spec PyProof.Rows L2 Evl TL
theorem find_first {α : Type} {p : α → Bool} : ∀ {l : List α} {j : Nat} {x : α}, l[j]? = some x → p x = true → (∀ y ∈ l.take j, p y = false) → l.find? p = some x
  | [], j, x, h, _, _ => by simp at h
  | a :: l, 0, x, h, hp, _ => by
    have e : a = x := Option.some.inj (by simpa using h)
    subst e
    rw [List.find?_cons, hp]
  | a :: l, j + 1, x, h, hp, hn => by
    rw [List.find?_cons, hn a (by simp)]
    exact find_first (l := l) (j := j) (by simpa using h) hp fun y hy => hn y (by simp [hy])
theorem dec_ii {i j : Int} : decide (V.int i = V.int j) = decide (i = j) := by
  by_cases h : i = j
  · subst h; simp
  · rw [decide_eq_false h, decide_eq_false (fun e => h (V.int.inj e))]
theorem ok_last_kind {P : Program} {w : World} {K : PySem.W.Frag} {mg : Str → Option Value} {base : Heap} {k : Nat} (T : Top K mg) (O_ends_well : Ok P w K mg base k (He.ga K "ends_well") p_ends_well (sp_ends_well K)) :
    Ok P w K mg base (k + 1) (He.ga K "last_kind") p_last_kind (sp_last_kind K) := by
  obtain ⟨fd_ends_well, F_ends_well, b_ends_well, k_ends_well⟩ := O_ends_well
  obtain ⟨fd, FD⟩ := T.d_last_kind
  refine ⟨fd, FunD.ok FD sc_last_kind (fun vs H Q E h => by obtain ⟨_, _, _, _, _, _, _, rfl, _⟩ := h; rfl) (fun cdv A outer s H vs Q E hr h => ?_), FD.bindsN fun _ _ _ _ _ _ us hl => match us, hl with | [_, _, _, _], _ => rfl, FD.kp⟩
  have nd := sc_last_kind.nd
  have hu := hu_of hr
  refine ⟨_, PSs.nox (pss_cons (ps_for PassesOwn.never rfl (pi_listK (K := K) (pv 2)) (pg_name (i := 4) nd rfl (Or.inl rfl))
       (pss_one (ps_if (PW.pt (pw_and (pt_val (pe_call F_ends_well hr rfl T.g_ends_well k_ends_well b_ends_well .nil pass0 (pa_cons (pv 0) (pa_cons (pv 4) (pa_cons (pv 3) pa_nil))))) (pw_and1 (pt_cmpR op_eq (pe_op op_add (pe_ix (ix_listK (K := K)) (pv 1) (pe_op op_sub (pv 3) (pe_ix (ix_tupK (K := K)) (pv 4) pe_int (fun _ _ => rfl))) (fun _ _ => rfl)) (pe_ix (ix_tupK (K := K)) (pv 4) pe_int (fun _ _ => rfl))) (pe_ix (ix_listK (K := K)) (pv 1) (pv 3) (fun _ _ => rfl)) (nomark _)))))
         (pss_one (ps_ret (pv 4))) pss_nil)))
      (pss_one (ps_ret pe_non))), ?_⟩
  obtain ⟨s, hg, b, e, ns, tab, kd, rfl, hS, hH, hTb, he, hk, q⟩ := h
  obtain ⟨ts, hB, hA⟩ := id hTb
  refine q_forLn (ev_var rfl) hB (fun j σ' H' => ∃ v, σ' = [some (.ref s), some (.ref hg), some (.ref b), some (.int (e : Int)), v] ∧ Ex H H' ∧ ∀ y ∈ tab.take j, lastP ns tab e y = false) ?_ ?_ ?_ ?_
  · exact fun H1 e1 => ⟨none, rfl, e1, fun y hy => by simp at hy⟩
  · rintro j σ' H' _ ⟨v, rfl, e1, _⟩
    exact ex_l e1 hB
  · rintro j x σ' H1 hj ⟨v, rfl, e1, hno⟩
    obtain ⟨tk, htk, rfl⟩ := map_get hj
    obtain ⟨row, hrow, hT⟩ := hA.get' htk
    obtain ⟨kc, hkc, rfl⟩ := map_get hrow
    have hT1 := ex_t e1 hT
    refine s_when (b := lastP ns tab e kc) ?_ (fun hb H2 e2 => ?_) (fun hb H2 e2 => ?_)
    · unfold lastP
      refine et_and (et_B (ev_call (ea_cons (ev_var rfl) (ea_cons (ev_var rfl) (ea_cons (ev_var rfl) ea_nil))) fun H6 e6 Q k E => ⟨s, tk, e, ns, kc, rfl, ex_l (e1.trans e6) hS, ex_t e6 hT1, he, k⟩)) fun hgood => ?_
      obtain ⟨g1, _, _⟩ := good_iff.mp hgood
      rw [← dec_ii]
      exact et_test (ev_op (ev_op (ev_op (ev_var rfl) (ev_op (ev_var rfl) (ev_op (ev_var rfl) ev_c (rv_ixT hT1 (kind_at1 kc))) rv_I0) (rv_ixL (ex_l e1 hH) (hl_at (j := e - kc.width) (by omega) (by omega)))) (ev_op (ev_var rfl) ev_c (rv_ixT hT1 (kind_at2 kc))) rv_I0) (ev_op (ev_var rfl) (ev_var rfl) (rv_ixL (ex_l e1 hH) (hl_at rfl he))) (rv_eq rfl))
    · have ek : lastK ns tab e = some kc := find_first hkc hb hno
      have e3 : kd = kc := Option.some.inj (hk.symm.trans ek)
      subst e3
      exact s_ret (ev_var rfl) fun H3 e3 => q tk H3 ((e1.trans e2).trans e3) (ex_t (e2.trans e3) hT1)
    · refine ⟨_, rfl, e1.trans e2, fun y hy => ?_⟩
      rw [List.take_succ_eq_append_getElem (lt_of_get hkc), (List.getElem?_eq_some_iff.mp hkc).2] at hy
      rcases List.mem_append.mp hy with hy | hy
      · exact hno y hy
      · rw [List.mem_singleton.mp hy]
        exact hb
  · rintro σ' H1 ⟨v, rfl, e1, hno⟩
    have el : (ts.map V.ref).length = tab.length := by rw [List.length_map, hA.length, List.length_map]
    rw [el, List.take_length] at hno
    have h1 := List.find?_some hk
    rw [hno kd (List.mem_of_find?_eq_some hk)] at h1
    cases h1
end Sv
namespace Sv
open PySem PySem.Spec PyProof.Rows L2 Evl TL
theorem ok_steps_back {P : Program} {w : World} {K : PySem.W.Frag} {mg : Str → Option Value} {base : Heap} {k : Nat} (T : Top K mg) (O_running_sums : Ok P w K mg base k (He.ga K "running_sums") p_running_sums (sp_running_sums K)) (O_heights : Ok P w K mg base k (He.ga K "heights") p_heights (sp_heights K)) (O_last_kind : Ok P w K mg base k (He.ga K "last_kind") p_last_kind (sp_last_kind K)) :
    Ok P w K mg base (k + 1) (He.ga K "steps_back") p_steps_back (sp_steps_back K) := by
  obtain ⟨fd_running_sums, F_running_sums, b_running_sums, k_running_sums⟩ := O_running_sums
  obtain ⟨fd_heights, F_heights, b_heights, k_heights⟩ := O_heights
  obtain ⟨fd_last_kind, F_last_kind, b_last_kind, k_last_kind⟩ := O_last_kind
  obtain ⟨fd, FD⟩ := T.d_steps_back
  refine ⟨fd, FunD.ok FD sc_steps_back (fun vs H Q E h => by obtain ⟨_, _, _, _, rfl, _⟩ := h; rfl) (fun cdv A outer s H vs Q E hr h => ?_), FD.bindsN fun _ _ _ _ _ _ us hl => match us, hl with | [_, _], _ => rfl, FD.kp⟩
  have nd := sc_steps_back.nd
  have hu := hu_of hr
  refine ⟨_, PSs.nox (pss_cons (ps_set (i := 2) nd rfl (Or.inl rfl) (pe_call F_running_sums hr rfl T.g_running_sums k_running_sums b_running_sums .nil pass0 (pa_cons (pv 0) pa_nil)))
      (pss_cons (ps_set (i := 3) nd rfl (Or.inl rfl) (pe_call F_heights hr rfl T.g_heights k_heights b_heights .nil pass0 (pa_cons (pv 0) (pa_cons (pv 1) pa_nil))))
      (pss_cons (ps_set (i := 4) nd rfl (Or.inl rfl) (pe_lst (pa_cons pe_int pa_nil)))
      (pss_cons (ps_for PassesOwn.never rfl (pi_range2 rfl T.f_range (pa_cons pe_int (pa_cons (pe_callB (call_lenK (K := K)) (by rfl) T.f_len (by decide +kernel) (pa_cons (pv 3) pa_nil)) pa_nil))) (pg_name (i := 5) nd rfl (Or.inl rfl))
       (pss_one (ps_if (pt_cmpR op_eq (pe_ix (ix_listK (K := K)) (pv 3) (pv 5) (fun _ _ => rfl)) (pe_ix (ix_listK (K := K)) (pv 3) (pe_op op_sub (pv 5) pe_int) (fun _ _ => rfl)) (nomark _))
         (pss_one (ps_expr (pe_bmK (K := K) PySem.F.plainAttrs_list PySem.F.slot_list_append PySem.F.type_list_append mt_append (pv 4) (pa_cons (pe_op op_sub (pv 5) pe_int) pa_nil))))
         (pss_one (ps_expr (pe_bmK (K := K) PySem.F.plainAttrs_list PySem.F.slot_list_append PySem.F.type_list_append mt_append (pv 4) (pa_cons (pe_op op_sub (pv 5) (pe_ix (ix_tupK (K := K)) (pe_call F_last_kind hr rfl T.g_last_kind k_last_kind b_last_kind .nil pass0 (pa_cons (pv 2) (pa_cons (pv 3) (pa_cons (pv 1) (pa_cons (pv 5) pa_nil))))) pe_int (fun _ _ => rfl))) pa_nil)))))))
      (pss_one (ps_ret (pv 4))))))), ?_⟩
  obtain ⟨a, b, ns, tab, rfl, hS, hTb, hl, W, q⟩ := h
  refine q_asgL (el_call (ea_cons (ev_var rfl) ea_nil) fun H1 e Q k E => ⟨a, ns, rfl, ex_l e hS, hl, k⟩) fun s H1 hs e1 h1 => ?_
  refine q_asgL (el_call (ea_cons (ev_var rfl) (ea_cons (ev_var rfl) ea_nil)) fun H2 e Q k E => ⟨a, b, ns, tab, rfl, ex_l (e1.trans e) hS, hTb.mono (e1.trans e), hl, W, k⟩) fun g H2 hg e2 h2 => ?_
  refine q_asgL (el_lst (ea_cons ev_c ea_nil) (by decide)) fun t H3 ht e3 h3 => ?_
  have e12 := e1.trans e2
  refine q_forR2 (ea_cons ev_c (ea_cons (ev_len (ev_var rfl) (sq_of (e3 _ _ h2))) ea_nil)) (by rw [List.length_map, hlist_length]; omega) (fun i σ' H' => ∃ v5, σ' = [some (.ref a), some (.ref b), some (.ref s), some (.ref g), some (.ref t), v5] ∧ Ex H2 H' ∧ H' t = some (.lst ((backs (back ns tab) i).map V.int))) ?_ ?_ ?_
  · exact fun H4 e4 => ⟨none, rfl, e3.trans e4, e4 _ _ h3⟩
  · rintro i σ' H4 hi ⟨v5, rfl, e4, hq⟩
    rw [List.length_map, hlist_length] at hi
    have ei : (1 : Int) + (i : Int) = ((i + 1 : Nat) : Int) := by omega
    rw [ei]
    have hH4 : SqL K H4 g ((hlist ns tab ns.length).map V.int) := sq_of (e4 _ _ h2)
    have em : ((i + 1 : Nat) : Int) - 1 = (i : Int) := by omega
    have eb : (backs (back ns tab) (i + 1)).map V.int = (backs (back ns tab) i).map V.int ++ [V.int ((back ns tab (i + 1) : Nat) : Int)] := by
      unfold backs
      rw [List.range_succ (n := i + 1), List.map_append, List.map_append]
      rfl
    refine s_if (b := decide (V.int (hgt ns tab (i + 1)) = V.int (hgt ns tab i))) (et_test (ev_op (ev_op (ev_var rfl) (ev_var rfl) (rv_ixL hH4 (hl_at rfl (by omega)))) (ev_op (ev_var rfl) (ev_op (ev_var rfl) ev_c rv_I0) (rv_ixL hH4 (hl_at em (by omega)))) (rv_eq rfl))) (fun hb H5 e5 => ?_) (fun hb H5 e5 => ?_)
    · have hh : hgt ns tab (i + 1) = hgt ns tab i := V.int.inj (of_decide_eq_true hb)
      refine s_appV (v := V.int ((back ns tab (i + 1) : Nat) : Int)) (e5 _ _ hq) (ev_var rfl) (ev_is (ev_op (ev_var rfl) ev_c rv_I0) ?_) (by simp [backs]; omega) fun H6 e6 hq6 => ?_
      · unfold back
        rw [bk_same hh, em]
      · exact ⟨_, rfl, (e6.ex (e4.trans e5) ht), by rw [hq6, eb]⟩
    · have hh : hgt ns tab (i + 1) ≠ hgt ns tab i := fun e => of_decide_eq_false hb (by rw [e])
      obtain ⟨kd, hk, hm, hgd, _⟩ := lastK_some W hh
      obtain ⟨g1, _, _⟩ := good_iff.mp hgd
      refine s_appV (v := V.int ((back ns tab (i + 1) : Nat) : Int)) (e5 _ _ hq) (ev_var rfl) (ev_is (ev_op (y := V.int ((kd.width : Nat) : Int)) (ev_var rfl) (ev_opG (P := fun _ v H9 => ∃ tk, v = .ref tk ∧ SqT K H9 tk (kindV kd)) (eg_call (ea_cons (ev_var rfl) (ea_cons (ev_var rfl) (ea_cons (ev_var rfl) (ea_cons (ev_var rfl) ea_nil)))) (fun H7 e7 Q k E => ?_) fun _ _ _ _ _ p => p) ev_c fun H7 v H8 e7 e8 p => ?_) rv_I0) ?_) (by simp [backs]; omega) fun H6 e6 hq6 => ?_
      · exact ⟨s, g, b, i + 1, ns, tab, kd, rfl, sq_of (((e2.trans e4).trans (e5.trans e7)) _ _ h1) , sq_of ((e4.trans (e5.trans e7)) _ _ h2), hTb.mono (e12.trans (e4.trans (e5.trans e7))), by omega, hk, fun tk H8 e8 hT => k _ H8 e8 ⟨tk, rfl, hT⟩⟩
      · obtain ⟨tk, rfl, hT⟩ := p
        exact rv_ixT hT (kind_at1 kd)
      · unfold back
        rw [bk_kind hh hk]
        exact congrArg V.int (by show ((i + 1 : Nat) : Int) - (kd.width : Int) = ((i + 1 - kd.width : Nat) : Int); omega)
      · exact ⟨_, rfl, (e6.ex (e4.trans e5) ht), by rw [hq6, eb]⟩
  · rintro σ' H4 ⟨v5, rfl, e4, hq⟩
    refine s_ret (ev_var rfl) fun H5 e5 => q t H5 (fresh_back e12 ht) (e12.trans (e4.trans e5)) (e5 _ _ ?_)
    rw [hq, List.length_map, hlist_length]
    have en : ((((ns.length + 1 : Nat) : Int)) - 1).toNat = ns.length := by omega
    rw [en]
end Sv
namespace Sv
open PySem PySem.Spec PyProof.Rows L2 Evl TL
theorem ok_Feed_is_open {P : Program} {w : World} {K : PySem.W.Frag} {mg : Str → Option Value} {base : Heap} {k : Nat} (T : Top K mg)  :
    Ok P w K mg base (k + 1) (He.ma K (He.ga K "Feed") "is_open") p_Feed_is_open (sp_Feed_is_open K) := by
  obtain ⟨fd, FD⟩ := T.d_Feed_is_open
  refine ⟨fd, FunD.ok FD sc_Feed_is_open (fun vs H Q E h => by obtain ⟨_, _, _, _, _, _, _, _, _, _, _, _, rfl, _⟩ := h; rfl) (fun cdv A outer s H vs Q E hr h => ?_), FD.bindsN fun _ _ _ _ _ _ us hl => match us, hl with | [_, _, _, _, _], _ => rfl, FD.kp⟩
  have nd := sc_Feed_is_open.nd
  have hu := hu_of hr
  refine ⟨_, PSs.nox (pss_cons (ps_set (i := 5) nd rfl (Or.inl rfl) (pe_callB (call_lenK (K := K)) (by rfl) T.f_len (by decide +kernel) (pa_cons (pe_fldK (K := K) (pv 0) rfl) pa_nil)))
      (pss_cons (ps_if (PW.pt (pw_or (pt_cmpR op_le (pe_op op_add (pv 4) (pe_ix (ix_tupK (K := K)) (pv 3) pe_int (fun _ _ => rfl))) (pv 5) (nomark _)) (pw_or1 (pt_cmpR op_le (pe_op op_add (pe_ix (ix_listK (K := K)) (pv 2) (pv 4) (fun _ _ => rfl)) (pe_ix (ix_tupK (K := K)) (pv 3) pe_int (fun _ _ => rfl))) (pe_ix (ix_listK (K := K)) (pv 2) (pv 5) (fun _ _ => rfl)) (nomark _)))))
       (pss_one (ps_ret pe_bl)) pss_nil)
      (pss_one (ps_ret (pe_cmpR op_le (pe_op op_sub (pe_ix (ix_listK (K := K)) (pv 1) (pv 5) (fun _ _ => rfl)) (pe_ix (ix_listK (K := K)) (pv 1) (pv 4) (fun _ _ => rfl))) (pe_ix (ix_tupK (K := K)) (pv 3) pe_int (fun _ _ => rfl)) (nomark _)))))), ?_⟩
  obtain ⟨f, cl, tl, dx, s, g, t, i, tab0, tab, fs, kd, rfl, F, hS, hH, hT, hi, q⟩ := h
  refine q_asg (v := .int (fs.ns.length : Int)) (ev_is (ev_len (ev_fld (ev_var rfl) F.ob T.cl_Feed T.n_Feed_came (ff_came _ _ _ _)) (sq_of F.came)) (by rw [List.length_map])) fun H1 e1 => ?_
  refine q_when (b := decide ((i : Int) + (kd.width : Int) ≤ (fs.ns.length : Int)) || decide (hgt fs.ns tab i + kd.worth ≤ hgt fs.ns tab fs.ns.length)) (et_or (et_test (ev_op (ev_op (ev_var rfl) (ev_op (ev_var rfl) ev_c (rv_ixT (ex_t e1 hT) (kind_at1 kd))) rv_I0) (ev_var rfl) rv_I0)) fun _ => et_test (ev_op (ev_op (ev_op (ev_var rfl) (ev_var rfl) (rv_ixL (ex_l e1 hH) (hl_at rfl hi))) (ev_op (ev_var rfl) ev_c (rv_ixT (ex_t e1 hT) (kind_at2 kd))) rv_I0) (ev_op (ev_var rfl) (ev_var rfl) (rv_ixL (ex_l e1 hH) (hl_at rfl (Nat.le_refl _)))) rv_I0)) (fun hb H2 e2 => ?_) (fun hb H2 e2 => ?_)
  · refine s_ret (ev_is ev_c ?_) fun H3 e3 => q H3 ((e1.trans e2).trans e3)
    have h1 : isOpen fs.ns tab i kd = false := by
      cases q9 : isOpen fs.ns tab i kd with
      | false => rfl
      | true =>
        obtain ⟨o1, o2, o3⟩ := isOpen_iff.mp q9
        simp only [Bool.or_eq_true, decide_eq_true_eq] at hb
        omega
    rw [h1]
  · have e12 := e1.trans e2
    refine s_ret (ev_is (ev_op (ev_op (ev_op (ev_var rfl) (ev_var rfl) (rv_ixL (ex_l e12 hS) (sums_at rfl (Nat.le_refl _)))) (ev_op (ev_var rfl) (ev_var rfl) (rv_ixL (ex_l e12 hS) (sums_at rfl hi))) rv_I0) (ev_op (ev_var rfl) ev_c (rv_ixT (ex_t e12 hT) (kind_at3 kd))) rv_I0) ?_) fun H3 e3 => q H3 (e12.trans e3)
    simp only [Bool.or_eq_false_iff, decide_eq_false_iff_not] at hb
    unfold isOpen
    rw [decide_eq_true (show fs.ns.length < i + kd.width by omega), decide_eq_true (show hgt fs.ns tab fs.ns.length < hgt fs.ns tab i + kd.worth by omega)]
    rfl
end Sv
namespace Sv
open PySem PySem.Spec PyProof.Rows L2 Evl TL
theorem given_all {α : Type} (da : α) (f : α → V) (as : List α) : given as.length (fun _ => true) (fun i => f (as.getD i da)) = as.map f := by
  have h := given_zip da da (as := as) (bs := as) rfl (fun _ => true) f
  rw [h, List.filter_eq_self.mpr (fun _ _ => rfl)]
  induction as with
  | nil => rfl
  | cons a as ih =>
    rw [List.zip_cons_cons, List.map_cons, List.map_cons]
    congr 1
    exact ih (by
      have h2 := given_zip da da (as := as) (bs := as) rfl (fun _ => true) f
      exact h2)
theorem ok_Feed_open_starts {P : Program} {w : World} {K : PySem.W.Frag} {mg : Str → Option Value} {base : Heap} {k : Nat} (T : Top K mg) (O_running_sums : Ok P w K mg base k (He.ga K "running_sums") p_running_sums (sp_running_sums K)) (O_heights : Ok P w K mg base k (He.ga K "heights") p_heights (sp_heights K)) (O_Feed_is_open : Ok P w K mg base k (He.ma K (He.ga K "Feed") "is_open") p_Feed_is_open (sp_Feed_is_open K)) :
    Ok P w K mg base (k + 1) (He.ma K (He.ga K "Feed") "open_starts") p_Feed_open_starts (sp_Feed_open_starts K) := by
  obtain ⟨fd_running_sums, F_running_sums, b_running_sums, k_running_sums⟩ := O_running_sums
  obtain ⟨fd_heights, F_heights, b_heights, k_heights⟩ := O_heights
  obtain ⟨fd_Feed_is_open, F_Feed_is_open, b_Feed_is_open, k_Feed_is_open⟩ := O_Feed_is_open
  obtain ⟨fd, FD⟩ := T.d_Feed_open_starts
  refine ⟨fd, FunD.ok FD sc_Feed_open_starts (fun vs H Q E h => by obtain ⟨_, _, _, _, _, _, rfl, _⟩ := h; rfl) (fun cdv A outer s H vs Q E hr h => ?_), FD.bindsN fun _ _ _ _ _ _ us hl => match us, hl with | [_], _ => rfl, FD.kp⟩
  have nd := sc_Feed_open_starts.nd
  have hu := hu_of hr
  refine ⟨_, PSs.nox (pss_cons (ps_set (i := 1) nd rfl (Or.inl rfl) (pe_callB (call_lenK (K := K)) (by rfl) T.f_len (by decide +kernel) (pa_cons (pe_fldK (K := K) (pv 0) rfl) pa_nil)))
      (pss_cons (ps_if (pt_val (pe_fldK (K := K) (pv 0) rfl))
       (pss_one (ps_ret (pe_lst (pa_cons (pv 1) pa_nil)))) pss_nil)
      (pss_cons (ps_set (i := 2) nd rfl (Or.inr rfl) (pe_call F_running_sums hr rfl T.g_running_sums k_running_sums b_running_sums .nil pass0 (pa_cons (pe_fldK (K := K) (pv 0) rfl) pa_nil)))
      (pss_cons (ps_set (i := 3) nd rfl (Or.inr rfl) (pe_call F_heights hr rfl T.g_heights k_heights b_heights .nil pass0 (pa_cons (pe_fldK (K := K) (pv 0) rfl) (pa_cons (pe_fldK (K := K) (pv 0) rfl) pa_nil))))
      (pss_cons (ps_set (i := 4) nd rfl (Or.inl rfl) (pe_lst pa_nil))
      (pss_cons (ps_for PassesOwn.never rfl (pi_range1 rfl T.f_range (pa_cons (pv 1) pa_nil)) (pg_name (i := 5) nd rfl (Or.inr rfl))
       (pss_one (ps_if (pt_val (pe_callB (cr_anyK (K := K) rfl) (by rfl) T.f_any (by decide +kernel) (pa_cons (pe_lc (own := [("kind", 6)]) (g := gName 6) rfl nd (pi_listK (K := K) (pe_fldK (K := K) (pv 0) rfl)) (blkOk_by (own := [("kind", 6)]) (N := N_Feed_open_starts) (sc := defScope s_Feed_open_starts) (by decide +kernel)) (fun _ _ _ _ _ => (pg_name (i := 6) nd rfl (Or.inl rfl))) (fun _ _ _ _ _ => pts_nil) (fun _ _ _ _ _ => (pe_meth (pv 0) T.cl_Feed T.m_Feed_is_open F_Feed_is_open hr b_Feed_is_open .nil pass0 (pa_cons (pv 2) (pa_cons (pv 3) (pa_cons (pv 6) (pa_cons (pv 5) pa_nil))))))) pa_nil)))
         (pss_one (ps_expr (pe_bmK (K := K) PySem.F.plainAttrs_list PySem.F.slot_list_append PySem.F.type_list_append mt_append (pv 4) (pa_cons (pv 5) pa_nil)))) pss_nil)))
      (pss_one (ps_ret (pe_op op_cat (pv 4) (pe_lst (pa_cons (pv 1) pa_nil))))))))))), ?_⟩
  obtain ⟨f, cl, tl, dx, tab, s, rfl, F, hl, hlt, W, q⟩ := h
  obtain ⟨ts, hB, hA0⟩ := id F.tabl
  have hA := hA0.of_map
  refine q_asg (v := .int (s.ns.length : Int)) (ev_is (ev_len (ev_fld (ev_var rfl) F.ob T.cl_Feed T.n_Feed_came (ff_came _ _ _ _)) (sq_of F.came)) (by rw [List.length_map])) fun H1 e1 => ?_
  have F1 := F.mono e1
  refine q_when (et_B (ev_fld (ev_var rfl) F1.ob T.cl_Feed T.n_Feed_ended (ff_ended _ _ _ _))) (fun hb H2 e2 => ?_) (fun hb H2 e2 => ?_)
  · refine s_retL (el_lst (ea_cons (ev_var rfl) ea_nil) (by simp)) fun p H3 hp e3 h3 => q p H3 (fresh_back (e1.trans e2) hp) ((e1.trans e2).trans e3) ?_
    rw [h3]
    unfold stsL
    rw [if_pos hb]
    rfl
  · have F2 := F1.mono e2
    have e12 := e1.trans e2
    refine q_asgL (el_call (ea_cons (ev_fld (ev_var rfl) F2.ob T.cl_Feed T.n_Feed_came (ff_came _ _ _ _)) ea_nil) fun H3 e Q k E => ⟨cl, s.ns, rfl, sq_of (e _ _ F2.came), hl, k⟩) fun sA H3 hs e3 h3 => ?_
    have F3 := F2.mono e3
    refine q_asgL (el_call (ea_cons (ev_fld (ev_var rfl) F3.ob T.cl_Feed T.n_Feed_came (ff_came _ _ _ _)) (ea_cons (ev_fld (ev_var rfl) F3.ob T.cl_Feed T.n_Feed_table (ff_table _ _ _ _)) ea_nil)) fun H4 e Q k E => ⟨cl, tl, s.ns, tab, rfl, sq_of (e _ _ F3.came), F3.tabl.mono e, hl, W, k⟩) fun hA4 H4 hh e4 h4 => ?_
    have F4 := F3.mono e4
    have e14 := e12.trans (e3.trans e4)
    refine q_asgL (el_lst ea_nil (by decide)) fun t H5 ht e5 h5 => ?_
    refine q_forR1 (ea_cons (ev_var rfl) ea_nil) (by omega) (fun i σ' H' => ∃ v5 v6, σ' = [some (.ref f), some (.int (s.ns.length : Int)), some (.ref sA), some (.ref hA4), some (.ref t), v5, v6] ∧ Ex H4 H' ∧ H' t = some (.lst (nVs (opens s.ns tab i)))) ?_ ?_ ?_
    · exact fun H6 e6 => ⟨none, none, rfl, e5.trans e6, e6 _ _ h5⟩
    · rintro i σ' H6 hi ⟨v5, v6, rfl, e6, h6⟩
      have F6 := F4.mono e6
      have hi' : i < s.ns.length := by omega
      refine s_when (b := (tab.map (isOpen s.ns tab i)).any id) (et_B (ev_any (bs := tab.map (isOpen s.ns tab i)) ?_)) (fun hb6 H7 e7 => ?_) (fun hb6 H7 e7 => ?_)
      · have hln : (ts.map V.ref).length = tab.length := by rw [List.length_map, hA.length]
        have g := el_lcL (K := K) (σ := [some (.ref f), some (.int (s.ns.length : Int)), some (.ref sA), some (.ref hA4), some (.ref t), some (.int (i : Int)), v6]) (H := H6) (tl := tFld K (tVar 0) "table") (t := tYes) (te := tMeth (He.ga K "Feed") "is_open" (sp_Feed_is_open K) [] E0 (tVar 0) (tCons (tVar 2) (tCons (tVar 3) (tCons (tVar 6) (tCons (tVar 5) tNil))))) (j := 6) (vs := [6]) (xs := ts.map V.ref) (fun _ => true) (fun j => V.bl (isOpen s.ns tab i (tab.getD j default)))
          (ev_fld (ev_var rfl) F6.ob T.cl_Feed T.n_Feed_table (ff_table _ _ _ _)) (ex_l (e14.trans e6) hB) (by rw [hln]; omega) (fun _ => rfl) (fun j x H7 e7 hj H8 e8 Q k => k H8 (Ex.refl _)) (fun j x H7 e7 hj _ => ?_)
        · rw [hln, given_all default (fun kd => V.bl (isOpen s.ns tab i kd)) tab] at g
          rw [List.map_map]
          exact g
        · obtain ⟨tk, htk, rfl⟩ := map_get hj
          obtain ⟨kd, hkd, hT⟩ := hA.get' htk
          have e9 : tab.getD j default = kd := by rw [List.getD_eq_getElem?_getD, hkd]; rfl
          rw [e9]
          have F7 := F6.mono e7
          refine ev_meth (ev_var rfl) F7.ob (ff_no _ _ _ _ (by decide +kernel) (by decide +kernel) (by decide +kernel) (by decide +kernel)) (ea_cons (ev_var rfl) (ea_cons (ev_var rfl) (ea_cons (ev_var rfl) (ea_cons (ev_var rfl) ea_nil)))) fun H8 e8 Q k E => ?_
          exact ⟨f, cl, tl, dx, sA, hA4, tk, i, tab, tab, s, kd, rfl, F7.mono e8, sq_of (((e4.trans e6).trans (e7.trans e8)) _ _ h3), sq_of ((e6.trans (e7.trans e8)) _ _ h4), ex_t ((e14.trans e6).trans (e7.trans e8)) hT, by omega, k⟩
      · refine s_appV (e7 _ _ h6) (ev_var rfl) (ev_var rfl) ?_ fun H8 e8 h8 => ?_
        · have := List.length_filter_le (fun i => tab.any (isOpen s.ns tab i)) (List.range i)
          rw [List.length_range] at this
          simp only [nVs, List.length_map, opens]
          omega
        · refine ⟨_, _, rfl, e8.ex (e6.trans e7) ht, ?_⟩
          have ha : tab.any (isOpen s.ns tab i) = true := by
            rw [List.any_map] at hb6
            exact hb6
          rw [h8]
          unfold opens
          rw [List.range_succ, List.filter_append, List.filter_cons, if_pos ha]
          simp [nVs]
      · refine ⟨_, _, rfl, e6.trans e7, ?_⟩
        have ha : ¬ tab.any (isOpen s.ns tab i) = true := by
          rw [List.any_map] at hb6
          intro z
          rw [show tab.any (id ∘ isOpen s.ns tab i) = tab.any (isOpen s.ns tab i) from rfl, z] at hb6
          cases hb6
        rw [e7 _ _ h6]
        unfold opens
        rw [List.range_succ, List.filter_append, List.filter_cons, if_neg ha]
        simp [nVs]
    · rintro σ' H6 ⟨v5, v6, rfl, e6, h6⟩
      have en : ((s.ns.length : Int)).toNat = s.ns.length := by omega
      rw [en] at h6
      have eall := e14.trans e6
      refine s_retL (el_catN (ys := [.int (s.ns.length : Int)]) (ev_var rfl) (el_lst (ea_cons (ev_var rfl) ea_nil) (by simp)) h6 ?_) fun p H7 hp e7 h7 => q p H7 (fresh_back eall hp) (eall.trans e7) ?_
      · have := List.length_filter_le (fun i => tab.any (isOpen s.ns tab i)) (List.range s.ns.length)
        rw [List.length_range] at this
        simp only [nVs, List.length_map, opens, List.length_cons, List.length_nil]
        omega
      · rw [h7]
        unfold stsL
        rw [if_neg (by rw [hb]; decide)]
        simp [nVs, starts]
end Sv
namespace Sv
open PySem PySem.Spec PyProof.Rows L2 Evl TL
theorem ok_meeting_place {P : Program} {w : World} {K : PySem.W.Frag} {mg : Str → Option Value} {base : Heap} {k : Nat} (T : Top K mg)  :
    Ok P w K mg base (k + 1) (He.ga K "meeting_place") p_meeting_place (sp_meeting_place K) := by
  obtain ⟨fd, FD⟩ := T.d_meeting_place
  refine ⟨fd, FunD.ok FD sc_meeting_place (fun vs H Q E h => by obtain ⟨_, _, _, _, _, rfl, _⟩ := h; rfl) (fun cdv A outer s H vs Q E hr h => ?_), FD.bindsN fun _ _ _ _ _ _ us hl => match us, hl with | [_, _, _], _ => rfl, FD.kp⟩
  have nd := sc_meeting_place.nd
  have hu := hu_of hr
  refine ⟨_, PSs.nox (pss_cons (ps_while PassesOwn.never (pt_cmpR op_ne (pv 1) (pv 2) (nomark _))
       (pss_one (ps_if (pt_cmpR op_gt (pv 1) (pv 2) (nomark _))
         (pss_one (ps_set (i := 1) nd rfl (Or.inl rfl) (pe_ix (ix_listK (K := K)) (pv 0) (pv 1) (fun _ _ => rfl))))
         (pss_one (ps_set (i := 2) nd rfl (Or.inl rfl) (pe_ix (ix_listK (K := K)) (pv 0) (pv 2) (fun _ _ => rfl)))))))
      (pss_one (ps_ret (pv 1)))), ?_⟩
  obtain ⟨a, x, y, n, b, rfl, hS, hb, hx, hy, q⟩ := h
  refine q_while (fun m σ' H' => ∃ x' y' : Nat, σ' = [some (.ref a), some (.int (x' : Int)), some (.int (y' : Int))] ∧ Ex H H' ∧ x' ≤ n ∧ y' ≤ n ∧ meet b x' y' = meet b x y ∧ m = x' + y') (x + y) ⟨x, y, rfl, Ex.refl _, hx, hy, rfl, rfl⟩ ?_
  rintro m σ' H1 ⟨x', y', rfl, e1, hx', hy', em, rfl⟩
  have hS1 := ex_l e1 hS
  refine ⟨!decide (V.int (x' : Int) = V.int (y' : Int)), et_test (ev_op (ev_var rfl) (ev_var rfl) (rv_ne rfl)), fun hne H2 e2 => ?_, fun heq H2 e2 => ?_⟩
  · have hne' : x' ≠ y' := fun e => by
      subst e
      simp at hne
    refine ⟨fun σ2 H3 => ∃ x2 y2 : Nat, σ2 = [some (.ref a), some (.int (x2 : Int)), some (.int (y2 : Int))] ∧ Ex H H3 ∧ x2 ≤ n ∧ y2 ≤ n ∧ meet b x2 y2 = meet b x y ∧ x2 + y2 < x' + y', ?_, ?_⟩
    · rintro σ2 H3 ⟨x2, y2, h1, h2, h3, h4, h5, h6⟩
      exact ⟨_, h6, x2, y2, h1, h2, h3, h4, h5, rfl⟩
    · refine s_if (et_test (ev_op (ev_var rfl) (ev_var rfl) rv_I0)) (fun hgt H3 e3 => ?_) (fun hle H3 e3 => ?_)
      · have hgt' : y' < x' := by
          have := of_decide_eq_true hgt
          omega
        have hbx := hb x' (by omega)
        refine s_asg (ev_op (ev_var rfl) (ev_var rfl) (rv_ixL (ex_l (e2.trans e3) hS1) (at_int rfl (backs_get hx')))) fun H4 e4 => ?_
        refine ⟨b x', y', rfl, ((e1.trans e2).trans e3).trans e4, by omega, hy', ?_, by omega⟩
        rw [← em, meet.eq_1 b x' y', if_neg hne', if_pos hgt', dif_pos hbx]
      · have hlt' : x' < y' := by
          have := of_decide_eq_false hle
          omega
        have hby := hb y' (by omega)
        refine s_asg (ev_op (ev_var rfl) (ev_var rfl) (rv_ixL (ex_l (e2.trans e3) hS1) (at_int rfl (backs_get hy')))) fun H4 e4 => ?_
        refine ⟨x', b y', rfl, ((e1.trans e2).trans e3).trans e4, hx', by omega, ?_, by omega⟩
        rw [← em, meet.eq_1 b x' y', if_neg hne', if_neg (by omega), dif_pos hby]
  · have heq' : x' = y' := by
      simp at heq
      omega
    refine s_ret (ev_is (ev_var rfl) ?_) fun H3 e3 => q H3 ((e1.trans e2).trans e3)
    rw [← em, heq', meet.eq_1, if_pos rfl]
end Sv
namespace Sv
open PySem PySem.Spec PyProof.Rows L2 Evl TL
theorem fold_take_snoc {α β : Type} {f : β → α → β} {x : β} {l : List α} {i : Nat} {y : α} (h : l[i]? = some y) : (l.take (i + 1)).foldl f x = f ((l.take i).foldl f x) y := by
  rw [List.take_succ_eq_append_getElem (lt_of_get h), List.foldl_append, (List.getElem?_eq_some_iff.mp h).2]
  rfl
theorem stl_fold {tab : List Kd} (s : FeedSt) : (stsL tab s).foldl (meet (back s.ns tab)) s.ns.length = stl tab s := by
  unfold stsL stl settled
  cases s.ended with
  | true =>
    show meet (back s.ns tab) s.ns.length s.ns.length = s.ns.length
    rw [meet.eq_1, if_pos rfl]
  | false => rfl
theorem stsL_le {tab : List Kd} (s : FeedSt) : ∀ x ∈ stsL tab s, x ≤ s.ns.length := fun x hx => by
  unfold stsL at hx
  split at hx
  · rw [List.mem_singleton.mp hx]
    exact Nat.le_refl _
  · rcases mem_starts.mp hx with h1 | h1 <;> omega
theorem stsL_last {tab : List Kd} (s : FeedSt) : ∃ l, stsL tab s = l ++ [s.ns.length] := by
  unfold stsL
  split
  · exact ⟨[], rfl⟩
  · exact ⟨_, rfl⟩
theorem fold_meet_le {b : Nat → Nat} (hb : ∀ e, 0 < e → b e < e) : ∀ (l : List Nat) (x : Nat), l.foldl (meet b) x ≤ x
  | [], x => Nat.le_refl _
  | y :: l, x => Nat.le_trans (fold_meet_le hb l (meet b x y)) (meet_le hb x y).1
theorem ok_Feed_settled {P : Program} {w : World} {K : PySem.W.Frag} {mg : Str → Option Value} {base : Heap} {k : Nat} (T : Top K mg) (O_steps_back : Ok P w K mg base k (He.ga K "steps_back") p_steps_back (sp_steps_back K)) (O_Feed_open_starts : Ok P w K mg base k (He.ma K (He.ga K "Feed") "open_starts") p_Feed_open_starts (sp_Feed_open_starts K)) (O_meeting_place : Ok P w K mg base k (He.ga K "meeting_place") p_meeting_place (sp_meeting_place K)) :
    Ok P w K mg base (k + 1) (He.ma K (He.ga K "Feed") "settled") p_Feed_settled (sp_Feed_settled K) := by
  obtain ⟨fd_steps_back, F_steps_back, b_steps_back, k_steps_back⟩ := O_steps_back
  obtain ⟨fd_Feed_open_starts, F_Feed_open_starts, b_Feed_open_starts, k_Feed_open_starts⟩ := O_Feed_open_starts
  obtain ⟨fd_meeting_place, F_meeting_place, b_meeting_place, k_meeting_place⟩ := O_meeting_place
  obtain ⟨fd, FD⟩ := T.d_Feed_settled
  refine ⟨fd, FunD.ok FD sc_Feed_settled (fun vs H Q E h => by obtain ⟨_, _, _, _, _, _, rfl, _⟩ := h; rfl) (fun cdv A outer s H vs Q E hr h => ?_), FD.bindsN fun _ _ _ _ _ _ us hl => match us, hl with | [_], _ => rfl, FD.kp⟩
  have nd := sc_Feed_settled.nd
  have hu := hu_of hr
  refine ⟨_, PSs.nox (pss_cons (ps_set (i := 1) nd rfl (Or.inl rfl) (pe_call F_steps_back hr rfl T.g_steps_back k_steps_back b_steps_back .nil pass0 (pa_cons (pe_fldK (K := K) (pv 0) rfl) (pa_cons (pe_fldK (K := K) (pv 0) rfl) pa_nil))))
      (pss_cons (ps_set (i := 2) nd rfl (Or.inl rfl) (pe_meth0 (pv 0) T.cl_Feed T.m_Feed_open_starts F_Feed_open_starts hr b_Feed_open_starts .nil pass0))
      (pss_cons (ps_set (i := 3) nd rfl (Or.inl rfl) (pe_ix (ix_listK (K := K)) (pv 2) (pe_un un_neg pe_int) (fun _ _ => rfl)))
      (pss_cons (ps_for PassesOwn.never rfl (pi_listK (K := K) (pv 2)) (pg_name (i := 4) nd rfl (Or.inl rfl))
       (pss_one (ps_set (i := 3) nd rfl (Or.inl rfl) (pe_call F_meeting_place hr rfl T.g_meeting_place k_meeting_place b_meeting_place .nil pass0 (pa_cons (pv 1) (pa_cons (pv 3) (pa_cons (pv 4) pa_nil)))))))
      (pss_one (ps_ret (pv 3))))))), ?_⟩
  obtain ⟨f, cl, tl, dx, tab, s, rfl, F, hl, hlt, W, q⟩ := h
  have hbl := back_lt (roll := s.ns) W
  refine q_asgL (el_call (ea_cons (ev_fld (ev_var rfl) F.ob T.cl_Feed T.n_Feed_came (ff_came _ _ _ _)) (ea_cons (ev_fld (ev_var rfl) F.ob T.cl_Feed T.n_Feed_table (ff_table _ _ _ _)) ea_nil)) fun H1 e Q k E => ⟨cl, tl, s.ns, tab, rfl, sq_of (e _ _ F.came), F.tabl.mono e, hl, W, k⟩) fun bf H1 hbf e1 h1 => ?_
  refine q_asgG (eg_meth (P := NewL (nVs (stsL tab s))) (ev_var rfl) (e1 _ _ F.ob) (ff_no _ _ _ _ (by decide +kernel) (by decide +kernel) (by decide +kernel) (by decide +kernel)) ea_nil (fun H2 e Q k E => ⟨f, cl, tl, dx, tab, s, rfl, F.mono (e1.trans e), hl, hlt, W, fun p H3 hp e3 h3 => k _ H3 e3 ⟨p, rfl, hp, h3⟩⟩) newL_back) fun v H2 e2 p2 => ?_
  obtain ⟨st, rfl, hst, h2⟩ := p2
  have e12 := e1.trans e2
  obtain ⟨l0, hl0⟩ := stsL_last (tab := tab) s
  refine q_asg (v := .int (s.ns.length : Int)) (ev_op (ev_var rfl) (ev_un ev_c ru_neg) (rv_ixL (sq_of h2) ?_)) fun H3 e3 => ?_
  · rw [hl0]
    unfold nVs
    rw [List.map_append]
    exact atI_last _ _
  · refine q_forLn (ev_var rfl) (sq_of (e3 _ _ h2)) (fun i σ' H' => ∃ v4, σ' = [some (.ref f), some (.ref bf), some (.ref st), some (.int ((((stsL tab s).take i).foldl (meet (back s.ns tab)) s.ns.length : Nat) : Int)), v4] ∧ Ex H2 H') ?_ ?_ ?_ ?_
    · exact fun H4 e4 => ⟨none, rfl, e3.trans e4⟩
    · rintro i σ' H' _ ⟨v4, rfl, e4⟩
      exact sq_of (e4 _ _ h2)
    · rintro i x σ' H4 hi ⟨v4, rfl, e4⟩
      obtain ⟨x, hx, rfl⟩ := map_get hi
      have hxl := stsL_le (tab := tab) s x (List.mem_of_getElem? hx)
      refine s_asg (v := .int ((meet (back s.ns tab) (((stsL tab s).take i).foldl (meet (back s.ns tab)) s.ns.length) x : Nat) : Int)) (ev_call (ea_cons (ev_var rfl) (ea_cons (ev_var rfl) (ea_cons (ev_var rfl) ea_nil))) fun H5 e5 Q k E => ?_) fun H5 e5 => ?_
      · exact ⟨bf, _, x, s.ns.length, back s.ns tab, rfl, sq_of ((e2.trans (e4.trans e5)) _ _ h1), hbl, fold_meet_le hbl _ _, hxl, k⟩
      · refine ⟨some (.int (x : Int)), ?_, e4.trans e5⟩
        rw [fold_take_snoc hx]
        rfl
    · rintro σ' H4 ⟨v4, rfl, e4⟩
      refine s_ret (ev_is (ev_var rfl) ?_) fun H5 e5 => q H5 (e12.trans (e4.trans e5))
      have el : (nVs (stsL tab s)).length = (stsL tab s).length := by simp [nVs]
      rw [el, List.take_length, stl_fold]
end Sv
namespace Sv
open PySem PySem.Spec PyProof.Rows L2 Evl TL
theorem ok_cutting_told {P : Program} {w : World} {K : PySem.W.Frag} {mg : Str → Option Value} {base : Heap} {k : Nat} (T : Top K mg) (O_running_sums : Ok P w K mg base k (He.ga K "running_sums") p_running_sums (sp_running_sums K)) (O_heights : Ok P w K mg base k (He.ga K "heights") p_heights (sp_heights K)) (O_last_kind : Ok P w K mg base k (He.ga K "last_kind") p_last_kind (sp_last_kind K)) :
    Ok P w K mg base (k + 1) (He.ga K "cutting_told") p_cutting_told (sp_cutting_told K) := by
  obtain ⟨fd_running_sums, F_running_sums, b_running_sums, k_running_sums⟩ := O_running_sums
  obtain ⟨fd_heights, F_heights, b_heights, k_heights⟩ := O_heights
  obtain ⟨fd_last_kind, F_last_kind, b_last_kind, k_last_kind⟩ := O_last_kind
  obtain ⟨fd, FD⟩ := T.d_cutting_told
  refine ⟨fd, FunD.ok FD sc_cutting_told (fun vs H Q E h => by obtain ⟨_, _, _, _, _, rfl, _⟩ := h; rfl) (fun cdv A outer s H vs Q E hr h => ?_), FD.bindsN fun _ _ _ _ _ _ us hl => match us, hl with | [_, _, _], _ => rfl, FD.kp⟩
  have nd := sc_cutting_told.nd
  have hu := hu_of hr
  refine ⟨_, PSs.nox (pss_cons (ps_set (i := 3) nd rfl (Or.inl rfl) (pe_call F_running_sums hr rfl T.g_running_sums k_running_sums b_running_sums .nil pass0 (pa_cons (pv 0) pa_nil)))
      (pss_cons (ps_set (i := 4) nd rfl (Or.inl rfl) (pe_call F_heights hr rfl T.g_heights k_heights b_heights .nil pass0 (pa_cons (pv 0) (pa_cons (pv 1) pa_nil))))
      (pss_cons (ps_set (i := 5) nd rfl (Or.inl rfl) (pe_lst pa_nil))
      (pss_cons (ps_set (i := 6) nd rfl (Or.inl rfl) (pe_lst (pa_cons (pv 2) pa_nil)))
      (pss_cons (ps_while PassesOwn.never (pt_cmpR op_gt (pv 2) pe_int (nomark _))
       (pss_cons (ps_if (pt_cmpR op_eq (pe_ix (ix_listK (K := K)) (pv 4) (pv 2) (fun _ _ => rfl)) (pe_ix (ix_listK (K := K)) (pv 4) (pe_op op_sub (pv 2) pe_int) (fun _ _ => rfl)) (nomark _))
         (pss_one (ps_set (i := 2) nd rfl (Or.inl rfl) (pe_op op_sub (pv 2) pe_int)))
         (pss_cons (ps_set (i := 7) nd rfl (Or.inl rfl) (pe_call F_last_kind hr rfl T.g_last_kind k_last_kind b_last_kind .nil pass0 (pa_cons (pv 3) (pa_cons (pv 4) (pa_cons (pv 1) (pa_cons (pv 2) pa_nil))))))
          (pss_cons (ps_set (i := 2) nd rfl (Or.inl rfl) (pe_op op_sub (pv 2) (pe_ix (ix_tupK (K := K)) (pv 7) pe_int (fun _ _ => rfl))))
          (pss_one (ps_expr (pe_bmK (K := K) PySem.F.plainAttrs_list PySem.F.slot_list_append PySem.F.type_list_append mt_append (pv 5) (pa_cons (pe_tup (pa_cons (pv 2) (pa_cons (pe_ix (ix_tupK (K := K)) (pv 7) pe_int (fun _ _ => rfl)) pa_nil))) pa_nil)))))))
        (pss_one (ps_expr (pe_bmK (K := K) PySem.F.plainAttrs_list PySem.F.slot_list_append PySem.F.type_list_append mt_append (pv 6) (pa_cons (pv 2) pa_nil))))))
      (pss_one (ps_ret (pe_tup (pa_cons (pe_revLK (K := K) (pv 5)) (pa_cons (pv 6) pa_nil)))))))))), ?_⟩
  obtain ⟨a, b, e, ns, tab, rfl, hS, hTb, hl, W, he, q⟩ := h
  refine q_asgL (el_call (ea_cons (ev_var rfl) ea_nil) fun H1 e Q k E => ⟨a, ns, rfl, ex_l e hS, hl, k⟩) fun s H1 hs e1 h1 => ?_
  refine q_asgL (el_call (ea_cons (ev_var rfl) (ea_cons (ev_var rfl) ea_nil)) fun H2 e Q k E => ⟨a, b, ns, tab, rfl, ex_l (e1.trans e) hS, hTb.mono (e1.trans e), hl, W, k⟩) fun g H2 hg e2 h2 => ?_
  have e12 := e1.trans e2
  refine q_asgG (eg_lst0 (K := K)) fun vc H3 e3 pc => ?_
  obtain ⟨c, rfl, hc, hcR⟩ := pc
  refine q_asgL (el_lst (ea_cons (ev_var rfl) ea_nil) (by simp)) fun p H4 hp e4 h4 => ?_
  have hp2 := fresh_back e3 hp
  have ncp : c ≠ p := by
    obtain ⟨ts, h5, _⟩ := hcR
    exact ne_of_none h5 hp
  refine q_while (fun m σ' H' => ∃ (e' : Nat) (v7 : Option V) (acc : List (Nat × Str)) (st : List V), σ' = [some (.ref a), some (.ref b), some (.int (e' : Int)), some (.ref s), some (.ref g), some (.ref c), some (.ref p), v7] ∧ Ex H2 H' ∧ e' ≤ e ∧ cut ns tab e = cut ns tab e' ++ acc.reverse ∧
      RowsN K H' c (acc.map pieV) ∧ acc.length + e' ≤ e ∧ H' p = some (.lst st) ∧ st.length + e' ≤ e + 1 ∧ m = e') e ⟨e, none, [], _, rfl, e3.trans e4, Nat.le_refl _, by simp, hcR.mono e4, by simp, h4, by simp; omega, rfl⟩ ?_
  rintro m σ' H5 ⟨e', v7, acc, st, rfl, e5, he', hcut, hR, hal, hst, hsl, hm⟩
  refine ⟨_, et_test (ev_op (ev_var rfl) ev_c rv_I0), fun hpos H6 e6 => ?_, fun hz H6 e6 => ?_⟩
  · have hpos' : 0 < e' := by
      have := of_decide_eq_true hpos
      omega
    obtain ⟨j, rfl⟩ : ∃ j, e' = j + 1 := ⟨e' - 1, by omega⟩
    have em : ((j + 1 : Nat) : Int) - 1 = (j : Int) := by omega
    have hH6 : SqL K H6 g ((hlist ns tab ns.length).map V.int) := sq_of ((e5.trans e6) _ _ h2)
    have hbl := back_lt (roll := ns) W (j + 1) hpos'
    have hcp := cut_pos (roll := ns) W hpos'
    refine ⟨fun σ2 H' => ∃ (e' : Nat) (v7 : Option V) (acc : List (Nat × Str)) (st : List V), σ2 = [some (.ref a), some (.ref b), some (.int (e' : Int)), some (.ref s), some (.ref g), some (.ref c), some (.ref p), v7] ∧ Ex H2 H' ∧ e' < j + 1 ∧ cut ns tab e = cut ns tab e' ++ acc.reverse ∧
      RowsN K H' c (acc.map pieV) ∧ acc.length + e' ≤ e ∧ H' p = some (.lst st) ∧ st.length + e' ≤ e + 1, ?_, ?_⟩
    · rintro σ2 H7 ⟨e2', v7', acc', st', h1, h2, h3, h4, h5, h6, h7, h8⟩
      exact ⟨e2', by omega, e2', v7', acc', st', h1, h2, by omega, h4, h5, h6, h7, h8, rfl⟩
    · refine q_ifK (b := decide (V.int (hgt ns tab (j + 1)) = V.int (hgt ns tab j))) (fun σ2 H' => ∃ (e' : Nat) (v7 : Option V) (acc : List (Nat × Str)), σ2 = [some (.ref a), some (.ref b), some (.int (e' : Int)), some (.ref s), some (.ref g), some (.ref c), some (.ref p), v7] ∧ Ex H2 H' ∧ e' < j + 1 ∧ cut ns tab e = cut ns tab e' ++ acc.reverse ∧
        RowsN K H' c (acc.map pieV) ∧ acc.length + e' ≤ e ∧ H' p = some (.lst st)) (et_test (ev_op (ev_op (ev_var rfl) (ev_var rfl) (rv_ixL hH6 (hl_at rfl (by omega)))) (ev_op (ev_var rfl) (ev_op (ev_var rfl) ev_c rv_I0) (rv_ixL hH6 (hl_at em (by omega)))) (rv_eq rfl))) (fun kk hb H7 e7 => ?_) (fun kk hb H7 e7 => ?_) ?_
      · have hh : hgt ns tab (j + 1) = hgt ns tab j := V.int.inj (of_decide_eq_true hb)
        refine s_asg (v := .int (j : Int)) (ev_is (ev_op (ev_var rfl) ev_c rv_I0) (congrArg V.int em)) fun H8 e8 => kk _ _ ?_
        refine ⟨j, v7, acc, rfl, (e5.trans e6).trans (e7.trans e8), by omega, ?_, hR.mono ((e6.trans e7).trans e8), by omega, ((e6.trans e7).trans e8) _ _ hst⟩
        rw [hcut, hcp]
        unfold back
        rw [bk_same hh]
        simp [piece]
      · have hh : hgt ns tab (j + 1) ≠ hgt ns tab j := fun e => of_decide_eq_false hb (by rw [e])
        obtain ⟨kd, hk, hm, hgd, _⟩ := lastK_some W hh
        obtain ⟨g1, _, _⟩ := good_iff.mp hgd
        have hw := W kd hm
        have e57 := (e5.trans e6).trans e7
        refine q_asgG (P := fun _ v H9 => ∃ tk, v = .ref tk ∧ SqT K H9 tk (kindV kd)) (eg_call (ea_cons (ev_var rfl) (ea_cons (ev_var rfl) (ea_cons (ev_var rfl) (ea_cons (ev_var rfl) ea_nil)))) (fun H8 e8 Q k E => ?_) fun _ _ _ _ _ p => p) fun v H8 e8 pv8 => ?_
        · exact ⟨s, g, b, j + 1, ns, tab, kd, rfl, sq_of ((e2.trans (e57.trans e8)) _ _ h1), sq_of ((e57.trans e8) _ _ h2), hTb.mono (e12.trans (e57.trans e8)), by omega, hk, fun tk H8 e8 hT => k _ H8 e8 ⟨tk, rfl, hT⟩⟩
        · obtain ⟨tk, rfl, hT⟩ := pv8
          have ew : ((j + 1 : Nat) : Int) - (kd.width : Int) = ((j + 1 - kd.width : Nat) : Int) := by omega
          refine q_asg (v := .int ((j + 1 - kd.width : Nat) : Int)) (ev_is (ev_op (ev_var rfl) (ev_op (ev_var rfl) ev_c (rv_ixT hT (kind_at1 kd))) rv_I0) (congrArg V.int ew)) fun H9 e9 => ?_
          have e79 := (e7.trans e8).trans e9
          refine s_appR (rows := acc.map pieV) (row := pieV (j + 1 - kd.width, kd.name)) (hR.mono (e6.trans e79)) (ev_var rfl) (eu_tup (ea_cons (ev_var rfl) (ea_cons (ev_op (ev_var rfl) ev_c (rv_ixT (ex_t e9 hT) (kind_at0 kd))) ea_nil)) (by show 2 ≤ 100000; decide)) (by rw [List.length_map]; omega) fun HA eA hRA => kk _ _ ?_
          have hp9 : H9 p = some (.lst st) := (e6.trans e79) _ _ hst
          refine ⟨j + 1 - kd.width, _, acc ++ [(j + 1 - kd.width, kd.name)], rfl, eA.ex (e5.trans (e6.trans e79)) hc, by omega, ?_, by rw [List.map_append]; exact hRA, by simp; omega, eA _ _ hp9 ncp.symm⟩
          rw [hcut, hcp]
          unfold back
          rw [bk_kind hh hk]
          simp [piece]
      · rintro σ2 H7 ⟨e2', v7', acc', rfl, f2, f3, f4, f5, f6, f7⟩
        refine s_appV f7 (ev_var rfl) (ev_var rfl) (by omega) fun H8 e8 h8 => ?_
        obtain ⟨ts, f5a, f5b⟩ := f5
        exact ⟨e2', v7', acc', _, rfl, e8.ex f2 hp2, f3, f4, e8.rowsN ⟨ts, f5a, f5b⟩ f7 ncp, f6, h8, by simp; omega⟩
  · have hz' : e' = 0 := by
      have := of_decide_eq_false hz
      omega
    subst hz'
    have hRl := (hR.mono e6).l
    have e26 := e12.trans (e5.trans e6)
    refine s_retTup2 (eg_revR (ev_var rfl) hRl) (EvG.of (ev_var rfl)) fun v v2 H7 H8 t e7 pv e8 pv2 ht => ?_
    obtain ⟨c', rfl, hc', hR'⟩ := pv
    subst pv2
    refine q t c' p _ (fresh_back e26 hc') ((e26.trans (e7.trans e8)).trans (Ex.new ht)) upd_same ?_
    have ec : cut ns tab e = acc.reverse := by rw [hcut, cut_zero]; rfl
    have h9 := (hR'.mono e8).mono (Ex.new (o := .tup [.ref c', .ref p]) ht)
    rw [← List.map_reverse, ← ec] at h9
    exact h9
end Sv
namespace Sv
open PySem PySem.Spec PyProof.Rows L2 Evl TL
theorem ok_Feed_sure {P : Program} {w : World} {K : PySem.W.Frag} {mg : Str → Option Value} {base : Heap} {k : Nat} (T : Top K mg) (O_Feed_settled : Ok P w K mg base k (He.ma K (He.ga K "Feed") "settled") p_Feed_settled (sp_Feed_settled K)) (O_cutting_told : Ok P w K mg base k (He.ga K "cutting_told") p_cutting_told (sp_cutting_told K)) :
    Ok P w K mg base (k + 1) (He.ma K (He.ga K "Feed") "sure") p_Feed_sure (sp_Feed_sure K) := by
  obtain ⟨fd_Feed_settled, F_Feed_settled, b_Feed_settled, k_Feed_settled⟩ := O_Feed_settled
  obtain ⟨fd_cutting_told, F_cutting_told, b_cutting_told, k_cutting_told⟩ := O_cutting_told
  obtain ⟨fd, FD⟩ := T.d_Feed_sure
  refine ⟨fd, FunD.ok FD sc_Feed_sure (fun vs H Q E h => by obtain ⟨_, _, _, _, _, _, rfl, _⟩ := h; rfl) (fun cdv A outer s H vs Q E hr h => ?_), FD.bindsN fun _ _ _ _ _ _ us hl => match us, hl with | [_], _ => rfl, FD.kp⟩
  have nd := sc_Feed_sure.nd
  have hu := hu_of hr
  refine ⟨_, PSs.nox (pss_one (ps_ret (pe_ix (ix_tupK (K := K)) (pe_call F_cutting_told hr rfl T.g_cutting_told k_cutting_told b_cutting_told .nil pass0 (pa_cons (pe_fldK (K := K) (pv 0) rfl) (pa_cons (pe_fldK (K := K) (pv 0) rfl) (pa_cons (pe_meth0 (pv 0) T.cl_Feed T.m_Feed_settled F_Feed_settled hr b_Feed_settled .nil pass0) pa_nil)))) pe_int (fun _ _ => rfl)))), ?_⟩
  obtain ⟨f, cl, tl, dx, tab, s, rfl, F, hl, hlt, W, q⟩ := h
  have hsl : stl tab s ≤ s.ns.length := by
    unfold stl
    split
    · exact Nat.le_refl _
    · exact settled_le W
  refine s_retG (eg_opG (P := fun Ha v Hb => ∃ t c s', v = .ref t ∧ Ha c = none ∧ Hb t = some (.tup [.ref c, .ref s']) ∧ PieN K Hb c (sureF tab s)) (P' := NewR K ((sureF tab s).map pieV)) (eg_call (ea_cons (ev_fld (ev_var rfl) F.ob T.cl_Feed T.n_Feed_came (ff_came _ _ _ _)) (ea_cons (ev_fld (ev_var rfl) F.ob T.cl_Feed T.n_Feed_table (ff_table _ _ _ _)) (ea_cons (ev_meth (z := .int ((stl tab s : Nat) : Int)) (ev_var rfl) F.ob (ff_no _ _ _ _ (by decide +kernel) (by decide +kernel) (by decide +kernel) (by decide +kernel)) ea_nil fun H1 e Q k E => ⟨f, cl, tl, dx, tab, s, rfl, F.mono e, hl, hlt, W, k⟩) ea_nil))) (fun H1 e Q k E => ?_) fun _ _ _ _ e p => ?_) ev_c fun H1 v H2 e1 e2 p H3 e3 Q k => ?_) q
  · exact ⟨cl, tl, stl tab s, s.ns, tab, rfl, sq_of (e _ _ F.came), F.tabl.mono e, hl, W, hsl, fun t c s' H2 hc e2 ht hR => k _ H2 e2 ⟨t, c, s', rfl, hc, ht, hR⟩⟩
  · obtain ⟨t, c, s', h1, h2, h3, h4⟩ := p
    exact ⟨t, c, s', h1, fresh_back e h2, h3, h4⟩
  · obtain ⟨t, c, s', rfl, hc, ht, hR⟩ := p
    exact rv_ixT (K := K) (st_of ht) (v := .ref c) rfl H3 e3 Q fun H4 e4 => k _ H4 e4 ⟨c, rfl, hc, hR.mono (e3.trans e4)⟩
end Sv
namespace Sv
open PySem PySem.Spec PyProof.Rows L2 Evl TL
theorem ok_Feed_fresh {P : Program} {w : World} {K : PySem.W.Frag} {mg : Str → Option Value} {base : Heap} {k : Nat} (T : Top K mg) (O_Feed_sure : Ok P w K mg base k (He.ma K (He.ga K "Feed") "sure") p_Feed_sure (sp_Feed_sure K)) :
    Ok P w K mg base (k + 1) (He.ma K (He.ga K "Feed") "fresh") p_Feed_fresh (sp_Feed_fresh K) := by
  obtain ⟨fd_Feed_sure, F_Feed_sure, b_Feed_sure, k_Feed_sure⟩ := O_Feed_sure
  obtain ⟨fd, FD⟩ := T.d_Feed_fresh
  refine ⟨fd, FunD.ok FD sc_Feed_fresh (fun vs H Q E h => by obtain ⟨_, _, _, _, _, _, rfl, _⟩ := h; rfl) (fun cdv A outer s H vs Q E hr h => ?_), FD.bindsN fun _ _ _ _ _ _ us hl => match us, hl with | [_], _ => rfl, FD.kp⟩
  have nd := sc_Feed_fresh.nd
  have hu := hu_of hr
  refine ⟨_, PSs.nox (pss_cons (ps_set (i := 1) nd rfl (Or.inl rfl) (pe_meth0 (pv 0) T.cl_Feed T.m_Feed_sure F_Feed_sure hr b_Feed_sure .nil pass0))
      (pss_cons (ps_set (i := 2) nd rfl (Or.inl rfl) (pe_fldK (K := K) (pv 0) rfl))
      (pss_cons (ps_fldK (K := K) (pv 0) (pe_callB (call_lenK (K := K)) (by rfl) T.f_len (by decide +kernel) (pa_cons (pv 1) pa_nil)) rfl)
      (pss_one (ps_ret (pe_slice (sl_listK (K := K)) (pv 1) (po_some (pv 2)) po_none)))))), ?_⟩
  obtain ⟨f, cl, tl, dx, tab, s, rfl, F, hl, hlt, W, q⟩ := h
  refine q_asgG (eg_meth (ev_var rfl) F.ob (ff_no _ _ _ _ (by decide +kernel) (by decide +kernel) (by decide +kernel) (by decide +kernel)) ea_nil (fun H1 e Q k E => ⟨f, cl, tl, dx, tab, s, rfl, F.mono e, hl, hlt, W, k⟩) fun _ _ _ _ e p => newR_back _ _ _ _ e p) fun v H1 e1 p1 => ?_
  obtain ⟨c, rfl, hc, hR⟩ := p1
  refine q_asg (v := .int (s.known : Int)) (ev_fld (ev_var rfl) (e1 _ _ F.ob) T.cl_Feed T.n_Feed_known (ff_known _ _ _ _)) fun H2 e2 => ?_
  have e12 := e1.trans e2
  refine q_fld (ev_lenR (ev_var rfl) (hR.mono e2).l) (ev_var rfl) (e12 _ _ F.ob) T.cl_Feed T.n_Feed_known (by show 4 < 1000; decide) fun H3 e3 => ?_
  have e13 := e12.trans e3
  rw [List.length_map, ff_put_known]
  have b3 : ExB f H3 (upd H3 f (.ins (CF K) dx (ff tl cl (sureF tab s).length s.ended))) := (Ex.b (Ex.refl _) f).upd _
  have hR3 := b3.rowsL ((hR.mono e2).mono e3).l (e13 _ _ F.ob)
  have F3 : FeedAt K (upd H3 f (.ins (CF K) dx (ff tl cl (sureF tab s).length s.ended))) f cl tl dx tab ⟨s.ns, (sureF tab s).length, s.ended⟩ :=
    ⟨upd_same, b3 _ _ (e13 _ _ F.came) (ne_of F.came F.ob (by intro z; cases z)), b3.rowsL (F.tabl.mono e13) (e13 _ _ F.ob), F.ne⟩
  generalize upd H3 f (.ins (CF K) dx (ff tl cl (sureF tab s).length s.ended)) = G at b3 hR3 F3 ⊢
  refine s_retG (eg_dropR (n := s.known) (ev_var rfl) (eo_some (ev_var rfl)) eo_none hR3) fun v H4 e4 p4 => ?_
  obtain ⟨p, rfl, hp, hRp⟩ := p4
  have b4 : ExB f H H4 := fun a o ha hn => e4 _ _ (b3 _ _ (e13 _ _ ha) hn)
  refine q _ H4 b4 (F3.mono e4) ⟨p, rfl, ?_, by rw [List.map_drop]; exact hRp⟩
  cases q9 : H p with
  | none => rfl
  | some o =>
    by_cases hpf : p = f
    · rw [hpf, F3.ob] at hp
      cases hp
    · rw [b3 _ _ (e13 _ _ q9) hpf] at hp
      cases hp
end Sv
namespace Sv
open PySem PySem.Spec PyProof.Rows L2 Evl TL
theorem ok_Feed_take {P : Program} {w : World} {K : PySem.W.Frag} {mg : Str → Option Value} {base : Heap} {k : Nat} (T : Top K mg) (O_Feed_still_open : Ok P w K mg base k (He.ma K (He.ga K "Feed") "still_open") p_Feed_still_open (sp_Feed_still_open K)) (O_Feed_fresh : Ok P w K mg base k (He.ma K (He.ga K "Feed") "fresh") p_Feed_fresh (sp_Feed_fresh K)) :
    Ok P w K mg base (k + 1) (He.ma K (He.ga K "Feed") "take") p_Feed_take (sp_Feed_take K) := by
  obtain ⟨fd_Feed_still_open, F_Feed_still_open, b_Feed_still_open, k_Feed_still_open⟩ := O_Feed_still_open
  obtain ⟨fd_Feed_fresh, F_Feed_fresh, b_Feed_fresh, k_Feed_fresh⟩ := O_Feed_fresh
  obtain ⟨fd, FD⟩ := T.d_Feed_take
  refine ⟨fd, FunD.ok FD sc_Feed_take (fun vs H Q E h => by obtain ⟨_, _, _, _, _, _, _, rfl, _⟩ := h; rfl) (fun cdv A outer s H vs Q E hr h => ?_), FD.bindsN fun _ _ _ _ _ _ us hl => match us, hl with | [_, _], _ => rfl, FD.kp⟩
  have nd := sc_Feed_take.nd
  have hu := hu_of hr
  refine ⟨_, PSs.nox (pss_cons (ps_expr (pe_meth0 (pv 0) T.cl_Feed T.m_Feed_still_open F_Feed_still_open hr b_Feed_still_open .nil pass0))
      (pss_cons (ps_if (pt_cmpR op_ge (pe_callB (call_lenK (K := K)) (by rfl) T.f_len (by decide +kernel) (pa_cons (pe_fldK (K := K) (pv 0) rfl) pa_nil)) (pe_glob (v := .int 200) rfl T.c_MOST_CELLS_rolls.choose_spec ⟨_, rfl⟩) (nomark _))
       (pss_one ps_never) pss_nil)
      (pss_cons (ps_expr (pe_bmK (K := K) PySem.F.plainAttrs_list PySem.F.slot_list_append PySem.F.type_list_append mt_append (pe_fldK (K := K) (pv 0) rfl) (pa_cons (pv 1) pa_nil)))
      (pss_one (ps_ret (pe_meth0 (pv 0) T.cl_Feed T.m_Feed_fresh F_Feed_fresh hr b_Feed_fresh .nil pass0)))))), ?_⟩
  obtain ⟨f, cl, tl, dx, c, tab, s, rfl, F, hf, hl, hlt, W, q⟩ := h
  have hno : ∀ {m : Str} , (m == ("table" : Str)) = false → (m == ("came" : Str)) = false → (m == ("known" : Str)) = false → (m == ("ended" : Str)) = false → (ff tl cl s.known s.ended).lookup m = none := fun h1 h2 h3 h4 => ff_no _ _ _ _ h1 h2 h3 h4
  refine q_drop (v := .non) (ev_meth (ev_var rfl) F.ob (hno (by decide +kernel) (by decide +kernel) (by decide +kernel) (by decide +kernel)) ea_nil fun H1 e Q k E => ⟨f, cl, tl, dx, tab, s, rfl, F.mono e, hf, k⟩) fun H1 e1 => ?_
  have F1 := F.mono e1
  refine q_when (b := false) (et_is (et_test (ev_op (ev_len (ev_fld (ev_var rfl) F1.ob T.cl_Feed T.n_Feed_came (ff_came _ _ _ _)) (sq_of F1.came)) ev_c rv_I0)) (decide_eq_false (by rw [List.length_map]; omega))) (fun hb => nomatch hb) fun _ H2 e2 => ?_
  have F2 := F1.mono e2
  have e12 := e1.trans e2
  refine q_appV F2.came (ev_fld (ev_var rfl) F2.ob T.cl_Feed T.n_Feed_came (ff_came _ _ _ _)) (ev_var rfl) (by rw [List.length_map]; omega) fun H3 b3 h3 => ?_
  have nfc : f ≠ cl := ne_of F.ob F.came (by intro z; cases z)
  have F3 : FeedAt K H3 f cl tl dx tab ⟨s.ns ++ [c], s.known, s.ended⟩ := ⟨b3 _ _ F2.ob nfc, by rw [h3, List.map_append]; rfl, b3.rowsLst F2.tabl F2.came F.ne, F.ne⟩
  refine t_meth (ev_var rfl) F3.ob (hno (by decide +kernel) (by decide +kernel) (by decide +kernel) (by decide +kernel)) ea_nil fun H4 e4 => ?_
  have es : sureF tab ⟨s.ns ++ [c], s.known, s.ended⟩ = sure (s.ns ++ [c]) tab := by
    unfold sureF stl
    rw [hf]
    rfl
  refine ⟨f, cl, tl, dx, tab, _, rfl, F3.mono e4, by simp; omega, hlt, W, fun v H5 b5 F5 r5 => ?_⟩
  rw [es] at F5 r5
  rw [hf] at F5
  refine q v H5 (fun a o ha hn hm => b5 _ _ (e4 _ _ (b3 _ _ (e12 _ _ ha) hm)) hn) F5 ?_
  obtain ⟨p, rfl, hp, hR⟩ := r5
  refine ⟨p, rfl, ?_, hR⟩
  cases q9 : H p with
  | none => rfl
  | some o =>
    have h4 : H4 p ≠ none := by
      by_cases hpc : p = cl
      · rw [hpc, e4 _ _ h3]
        intro z
        cases z
      · rw [e4 _ _ (b3 _ _ (e12 _ _ q9) hpc)]
        intro z
        cases z
    exact absurd hp h4
end Sv
namespace Sv
open PySem PySem.Spec PyProof.Rows L2 Evl TL
theorem ok_show_cutting {P : Program} {w : World} {K : PySem.W.Frag} {mg : Str → Option Value} {base : Heap} {k : Nat} (T : Top K mg)  :
    Ok P w K mg base (k + 1) (He.ga K "show_cutting") p_show_cutting (sp_show_cutting K) := by
  obtain ⟨fd, FD⟩ := T.d_show_cutting
  refine ⟨fd, FunD.ok FD sc_show_cutting (fun vs H Q E h => by obtain ⟨_, _, rfl, _⟩ := h; rfl) (fun cdv A outer s H vs Q E hr h => ?_), FD.bindsN fun _ _ _ _ _ _ us hl => match us, hl with | [_], _ => rfl, FD.kp⟩
  have nd := sc_show_cutting.nd
  have hu := hu_of hr
  refine ⟨_, PSs.nox (pss_cons (ps_if (pt_cmpR (op_eqDK (K := K) hr.units) (pv 0) (pe_lst pa_nil) (nomark _))
       (pss_one (ps_ret pe_str)) pss_nil)
      (pss_one (ps_ret (pe_joinK (K := K) pe_str (pe_lc (own := [("place", 2), ("name", 1)]) (g := gTup K 2 (gCons (gName 2) (gCons (gName 1) gNil))) rfl nd (pi_listK (K := K) (pv 0)) (blkOk_by (own := [("place", 2), ("name", 1)]) (N := N_show_cutting) (sc := defScope s_show_cutting) (by decide +kernel)) (fun _ _ _ _ _ => (pg_tupK (K := K) rfl (pgs_cons (pg_name (i := 2) nd rfl (Or.inl rfl)) (pgs_cons (pg_name (i := 1) nd rfl (Or.inl rfl)) pgs_nil)))) (fun _ _ _ _ _ => pts_nil) (fun _ _ _ _ _ => (pe_joined (.cons (pe_fmt (pv 2)) (.cons pe_str (.cons (pe_fmt (pv 1)) .nil)))))))))), ?_⟩
  obtain ⟨a, ps, rfl, hP, hok, q⟩ := h
  have hlen := hok.1
  refine q_when (b := decide (ps = [])) (et_test (ev_opL (ev_var rfl) (el_lst ea_nil (by decide)) fun p H1 hp e1 => rv_eqNil (hP.mono e1) hok hp)) (fun hb H1 e1 => ?_) (fun hb H1 e1 => ?_)
  · refine s_ret (ev_is ev_c ?_) fun H2 e2 => q H2 (e1.trans e2)
    unfold cutLine
    rw [if_pos (of_decide_eq_true hb)]
  · have hne := of_decide_eq_false hb
    refine s_ret (ev_is (ev_joinN (ys := ps.map pieW) ev_c ?_ (pies_size hok)) ?_) fun H2 e2 => q H2 (e1.trans e2)
    · rw [List.map_map]
      refine el_lcT2 (xs := ps) (g1 := fun p => V.int (p.1 : Int)) (g2 := fun p => V.str p.2) (fun p => V.str (pieW p)) (ev_var rfl) (hP.mono e1) (by omega) (fun _ _ => rfl) fun p H2 e2 hp => ?_
      obtain ⟨p1, p2⟩ := hok.2 p hp
      obtain ⟨l1, l2⟩ := pie_num hok hp
      have lc : (":" : Str).length = 1 := by decide +kernel
      exact ev_f3 (ev_fmtI (ev_var rfl) (log_ok (by omega) (by omega))) ev_c (ev_fmtS (ev_var rfl) (by omega)) (by omega)
    · unfold cutLine
      rw [if_neg hne]
end Sv
namespace Sv
open PySem PySem.Spec PyProof.Rows L2 Evl TL
theorem ok_Feed_close {P : Program} {w : World} {K : PySem.W.Frag} {mg : Str → Option Value} {base : Heap} {k : Nat} (T : Top K mg) (O_Feed_still_open : Ok P w K mg base k (He.ma K (He.ga K "Feed") "still_open") p_Feed_still_open (sp_Feed_still_open K)) (O_Feed_fresh : Ok P w K mg base k (He.ma K (He.ga K "Feed") "fresh") p_Feed_fresh (sp_Feed_fresh K)) :
    Ok P w K mg base (k + 1) (He.ma K (He.ga K "Feed") "close") p_Feed_close (sp_Feed_close K) := by
  obtain ⟨fd_Feed_still_open, F_Feed_still_open, b_Feed_still_open, k_Feed_still_open⟩ := O_Feed_still_open
  obtain ⟨fd_Feed_fresh, F_Feed_fresh, b_Feed_fresh, k_Feed_fresh⟩ := O_Feed_fresh
  obtain ⟨fd, FD⟩ := T.d_Feed_close
  refine ⟨fd, FunD.ok FD sc_Feed_close (fun vs H Q E h => by obtain ⟨_, _, _, _, _, _, rfl, _⟩ := h; rfl) (fun cdv A outer s H vs Q E hr h => ?_), FD.bindsN fun _ _ _ _ _ _ us hl => match us, hl with | [_], _ => rfl, FD.kp⟩
  have nd := sc_Feed_close.nd
  have hu := hu_of hr
  refine ⟨_, PSs.nox (pss_cons (ps_expr (pe_meth0 (pv 0) T.cl_Feed T.m_Feed_still_open F_Feed_still_open hr b_Feed_still_open .nil pass0))
      (pss_cons (ps_fldK (K := K) (pv 0) pe_bl rfl)
      (pss_one (ps_ret (pe_meth0 (pv 0) T.cl_Feed T.m_Feed_fresh F_Feed_fresh hr b_Feed_fresh .nil pass0))))), ?_⟩
  obtain ⟨f, cl, tl, dx, tab, s, rfl, F, hf, hl, hlt, W, q⟩ := h
  refine q_drop (v := .non) (ev_meth (ev_var rfl) F.ob (ff_no _ _ _ _ (by decide +kernel) (by decide +kernel) (by decide +kernel) (by decide +kernel)) ea_nil fun H1 e Q k E => ⟨f, cl, tl, dx, tab, s, rfl, F.mono e, hf, k⟩) fun H1 e1 => ?_
  have F1 := F.mono e1
  refine q_fld (ev_c (v := .bl true)) (ev_var rfl) F1.ob T.cl_Feed T.n_Feed_ended (by show 4 < 1000; decide) fun H2 e2 => ?_
  rw [ff_put_ended]
  have F2 := F1.mono e2
  have e12 := e1.trans e2
  have b3 : ExB f H2 (upd H2 f (.ins (CF K) dx (ff tl cl s.known true))) := (Ex.b (Ex.refl _) f).upd _
  have F3 : FeedAt K (upd H2 f (.ins (CF K) dx (ff tl cl s.known true))) f cl tl dx tab ⟨s.ns, s.known, true⟩ :=
    ⟨upd_same, b3 _ _ F2.came (ne_of F.came F.ob (by intro z; cases z)), b3.rowsL F2.tabl F2.ob, F.ne⟩
  generalize upd H2 f (.ins (CF K) dx (ff tl cl s.known true)) = G at b3 F3 ⊢
  refine t_meth (ev_var rfl) F3.ob (ff_no _ _ _ _ (by decide +kernel) (by decide +kernel) (by decide +kernel) (by decide +kernel)) ea_nil fun H4 e4 => ?_
  have es : sureF tab ⟨s.ns, s.known, true⟩ = told s.ns tab := rfl
  refine ⟨f, cl, tl, dx, tab, _, rfl, F3.mono e4, hl, hlt, W, fun v H5 b5 F5 r5 => ?_⟩
  rw [es] at F5 r5
  refine q v H5 (fun a o ha hn => b5 _ _ (e4 _ _ (b3 _ _ (e12 _ _ ha) hn)) hn) F5 ?_
  obtain ⟨p, rfl, hp, hR⟩ := r5
  refine ⟨p, rfl, ?_, hR⟩
  cases q9 : H p with
  | none => rfl
  | some o =>
    have h4 : H4 p ≠ none := by
      by_cases hpc : p = f
      · rw [hpc, e4 _ _ F3.ob]
        intro z
        cases z
      · rw [e4 _ _ (b3 _ _ (e12 _ _ q9) hpc)]
        intro z
        cases z
    exact absurd hp h4
end Sv
namespace Sv
open PySem PySem.Spec PyProof.Rows L2 Evl TL
theorem ok_best {P : Program} {w : World} {K : PySem.W.Frag} {mg : Str → Option Value} {base : Heap} {k : Nat} (T : Top K mg) (O_heights : Ok P w K mg base k (He.ga K "heights") p_heights (sp_heights K)) (O_cutting_told : Ok P w K mg base k (He.ga K "cutting_told") p_cutting_told (sp_cutting_told K)) :
    Ok P w K mg base (k + 1) (He.ga K "best") p_best (sp_best K) := by
  obtain ⟨fd_heights, F_heights, b_heights, k_heights⟩ := O_heights
  obtain ⟨fd_cutting_told, F_cutting_told, b_cutting_told, k_cutting_told⟩ := O_cutting_told
  obtain ⟨fd, FD⟩ := T.d_best
  refine ⟨fd, FunD.ok FD sc_best (fun vs H Q E h => by obtain ⟨_, _, _, _, rfl, _⟩ := h; rfl) (fun cdv A outer s H vs Q E hr h => ?_), FD.bindsN fun _ _ _ _ _ _ us hl => match us, hl with | [_, _], _ => rfl, FD.kp⟩
  have nd := sc_best.nd
  have hu := hu_of hr
  refine ⟨_, PSs.nox (pss_one (ps_ret (pe_tup (pa_cons (pe_ix (ix_listK (K := K)) (pe_call F_heights hr rfl T.g_heights k_heights b_heights .nil pass0 (pa_cons (pv 0) (pa_cons (pv 1) pa_nil))) (pe_un un_neg pe_int) (fun _ _ => rfl)) (pa_cons (pe_ix (ix_tupK (K := K)) (pe_call F_cutting_told hr rfl T.g_cutting_told k_cutting_told b_cutting_told .nil pass0 (pa_cons (pv 0) (pa_cons (pv 1) (pa_cons (pe_callB (call_lenK (K := K)) (by rfl) T.f_len (by decide +kernel) (pa_cons (pv 0) pa_nil)) pa_nil)))) pe_int (fun _ _ => rfl)) pa_nil))))), ?_⟩
  obtain ⟨a, b, ns, tab, rfl, hS, hTb, hl, W, q⟩ := h
  refine s_retTup2 (EvG.of (v := .int (hgt ns tab ns.length)) (ev_opG (P := NewL ((hlist ns tab ns.length).map V.int)) (EvL.g (el_call (ea_cons (ev_var rfl) (ea_cons (ev_var rfl) ea_nil)) fun H1 e Q k E => ⟨a, b, ns, tab, rfl, ex_l e hS, hTb.mono e, hl, W, k⟩)) (ev_un ev_c ru_neg) fun H1 v H2 e1 e2 p => ?_))
    (eg_opG (P := fun Ha v Hb => ∃ t c s, v = .ref t ∧ Ha c = none ∧ Hb t = some (.tup [.ref c, .ref s]) ∧ PieN K Hb c (told ns tab)) (P' := NewR K ((told ns tab).map pieV)) (eg_call (ea_cons (ev_var rfl) (ea_cons (ev_var rfl) (ea_cons (ev_len (ev_var rfl) hS) ea_nil))) (fun H1 e Q k E => ?_) fun _ _ _ _ e p => ?_) ev_c fun H1 v H2 e1 e2 p H3 e3 Q k => ?_) fun v w H1 H2 p e1 p1 e2 p2 hp => ?_
  · obtain ⟨p', rfl, _, hp'⟩ := p
    exact rv_ixL (sq_of hp') (hl_last ns tab ns.length)
  · exact ⟨a, b, ns.length, ns, tab, by rw [List.length_map]; rfl, ex_l e hS, hTb.mono e, hl, W, Nat.le_refl _, fun t c s H2 hc e2 ht hR => k _ H2 e2 ⟨t, c, s, rfl, hc, ht, hR⟩⟩
  · obtain ⟨t, c, s, h1, h2, h3, h4⟩ := p
    exact ⟨t, c, s, h1, fresh_back e h2, h3, h4⟩
  · obtain ⟨t, c, s, rfl, hc, ht, hR⟩ := p
    exact rv_ixT (K := K) (st_of ht) (v := .ref c) rfl H3 e3 Q fun H4 e4 => k _ H4 e4 ⟨c, rfl, hc, hR.mono (e3.trans e4)⟩
  · subst p1
    obtain ⟨c, rfl, hc, hR⟩ := p2
    exact q p _ c _ (fresh_back e1 hc) ((e1.trans e2).trans (Ex.new hp)) upd_same (hR.mono (Ex.new hp))
end Sv
namespace Sv
open PySem PySem.Spec PyProof.Rows L2 Evl TL
theorem ok_Feed_cutting {P : Program} {w : World} {K : PySem.W.Frag} {mg : Str → Option Value} {base : Heap} {k : Nat} (T : Top K mg) (O_best : Ok P w K mg base k (He.ga K "best") p_best (sp_best K)) :
    Ok P w K mg base (k + 1) (He.ma K (He.ga K "Feed") "cutting") p_Feed_cutting (sp_Feed_cutting K) := by
  obtain ⟨fd_best, F_best, b_best, k_best⟩ := O_best
  obtain ⟨fd, FD⟩ := T.d_Feed_cutting
  refine ⟨fd, FunD.ok FD sc_Feed_cutting (fun vs H Q E h => by obtain ⟨_, _, _, _, _, _, rfl, _⟩ := h; rfl) (fun cdv A outer s H vs Q E hr h => ?_), FD.bindsN fun _ _ _ _ _ _ us hl => match us, hl with | [_], _ => rfl, FD.kp⟩
  have nd := sc_Feed_cutting.nd
  have hu := hu_of hr
  refine ⟨_, PSs.nox (pss_one (ps_ret (pe_ix (ix_tupK (K := K)) (pe_call F_best hr rfl T.g_best k_best b_best .nil pass0 (pa_cons (pe_fldK (K := K) (pv 0) rfl) (pa_cons (pe_fldK (K := K) (pv 0) rfl) pa_nil))) pe_int (fun _ _ => rfl)))), ?_⟩
  obtain ⟨f, cl, tl, dx, tab, s, rfl, F, hl, W, q⟩ := h
  refine s_retG (eg_opG (P := fun Ha v Hb => ∃ t z c, v = .ref t ∧ Ha c = none ∧ Hb t = some (.tup [.int z, .ref c]) ∧ PieN K Hb c (told s.ns tab)) (P' := NewR K ((told s.ns tab).map pieV)) (eg_call (ea_cons (ev_fld (ev_var rfl) F.ob T.cl_Feed T.n_Feed_came (ff_came _ _ _ _)) (ea_cons (ev_fld (ev_var rfl) F.ob T.cl_Feed T.n_Feed_table (ff_table _ _ _ _)) ea_nil)) (fun H1 e Q k E => ?_) fun _ _ _ _ e p => ?_) ev_c fun H1 v H2 e1 e2 p H3 e3 Q k => ?_) q
  · exact ⟨cl, tl, s.ns, tab, rfl, sq_of (e _ _ F.came), F.tabl.mono e, hl, W, fun t z c H2 hc e2 ht hR => k _ H2 e2 ⟨t, z, c, rfl, hc, ht, hR⟩⟩
  · obtain ⟨t, z, c, h1, h2, h3, h4⟩ := p
    exact ⟨t, z, c, h1, fresh_back e h2, h3, h4⟩
  · obtain ⟨t, z, c, rfl, hc, ht, hR⟩ := p
    exact rv_ixT (K := K) (st_of ht) (v := .ref c) rfl H3 e3 Q fun H4 e4 => k _ H4 e4 ⟨c, rfl, hc, hR.mono (e3.trans e4)⟩
end Sv
namespace Sv
open PySem PySem.Spec PyProof.Rows L2 Evl TL
theorem ok_Desk_feed_lines {P : Program} {w : World} {K : PySem.W.Frag} {mg : Str → Option Value} {base : Heap} {k : Nat} (T : Top K mg) (O_Feed_closed : Ok P w K mg base k (He.ma K (He.ga K "Feed") "closed") p_Feed_closed (sp_Feed_closed K)) (O_Feed_cells : Ok P w K mg base k (He.ma K (He.ga K "Feed") "cells") p_Feed_cells (sp_Feed_cells K)) (O_Feed_take : Ok P w K mg base k (He.ma K (He.ga K "Feed") "take") p_Feed_take (sp_Feed_take K)) (O_show_cutting : Ok P w K mg base k (He.ga K "show_cutting") p_show_cutting (sp_show_cutting K)) (O_Feed_close : Ok P w K mg base k (He.ma K (He.ga K "Feed") "close") p_Feed_close (sp_Feed_close K)) (O_Feed_sure : Ok P w K mg base k (He.ma K (He.ga K "Feed") "sure") p_Feed_sure (sp_Feed_sure K)) (O_Feed_settled : Ok P w K mg base k (He.ma K (He.ga K "Feed") "settled") p_Feed_settled (sp_Feed_settled K)) (O_Feed_cutting : Ok P w K mg base k (He.ma K (He.ga K "Feed") "cutting") p_Feed_cutting (sp_Feed_cutting K)) :
    Ok P w K mg base (k + 1) (He.ma K (He.ga K "Desk") "feed_lines") p_Desk_feed_lines (sp_Desk_feed_lines K) := by
  obtain ⟨fd_Feed_closed, F_Feed_closed, b_Feed_closed, k_Feed_closed⟩ := O_Feed_closed
  obtain ⟨fd_Feed_cells, F_Feed_cells, b_Feed_cells, k_Feed_cells⟩ := O_Feed_cells
  obtain ⟨fd_Feed_take, F_Feed_take, b_Feed_take, k_Feed_take⟩ := O_Feed_take
  obtain ⟨fd_show_cutting, F_show_cutting, b_show_cutting, k_show_cutting⟩ := O_show_cutting
  obtain ⟨fd_Feed_close, F_Feed_close, b_Feed_close, k_Feed_close⟩ := O_Feed_close
  obtain ⟨fd_Feed_sure, F_Feed_sure, b_Feed_sure, k_Feed_sure⟩ := O_Feed_sure
  obtain ⟨fd_Feed_settled, F_Feed_settled, b_Feed_settled, k_Feed_settled⟩ := O_Feed_settled
  obtain ⟨fd_Feed_cutting, F_Feed_cutting, b_Feed_cutting, k_Feed_cutting⟩ := O_Feed_cutting
  obtain ⟨fd, FD⟩ := T.d_Desk_feed_lines
  refine ⟨fd, FunD.ok FD sc_Desk_feed_lines (fun vs H Q E h => by obtain ⟨_, _, _, _, _, _, _, _, _, _, _, rfl, _⟩ := h; rfl) (fun cdv A outer s H vs Q E hr h => ?_), FD.bindsN fun _ _ _ _ _ _ us hl => match us, hl with | [_, _, _], _ => rfl, FD.kp⟩
  have nd := sc_Desk_feed_lines.nd
  have hu := hu_of hr
  refine ⟨_, PSs.nox (pss_cons (ps_if (pt_cmpR op_eq (pe_ix (ix_tupK (K := K)) (pv 1) pe_int (fun _ _ => rfl)) pe_str (nomark _))
       (pss_cons (ps_if (PW.pt (pw_and (pt_val (pe_meth0 (pv 2) T.cl_Feed T.m_Feed_closed F_Feed_closed hr b_Feed_closed .nil pass0)) (pw_and1 (pt_cmpR op_gt (pe_callB (call_lenK (K := K)) (by rfl) T.f_len (by decide +kernel) (pa_cons (pe_ix (ix_tupK (K := K)) (pv 1) pe_int (fun _ _ => rfl)) pa_nil)) pe_int (nomark _)))))
         (pss_one (ps_ret (pe_lst (pa_cons pe_str pa_nil)))) pss_nil)
        (pss_cons (ps_if (pt_cmpR op_gt (pe_op op_add (pe_callB (call_lenK (K := K)) (by rfl) T.f_len (by decide +kernel) (pa_cons (pe_meth0 (pv 2) T.cl_Feed T.m_Feed_cells F_Feed_cells hr b_Feed_cells .nil pass0) pa_nil)) (pe_callB (call_lenK (K := K)) (by rfl) T.f_len (by decide +kernel) (pa_cons (pe_ix (ix_tupK (K := K)) (pv 1) pe_int (fun _ _ => rfl)) pa_nil))) (pe_glob (v := .int 200) rfl T.c_MOST_CELLS_rolls.choose_spec ⟨_, rfl⟩) (nomark _))
         (pss_one (ps_ret (pe_lst (pa_cons pe_str pa_nil)))) pss_nil)
        (pss_cons (ps_set (i := 3) nd rfl (Or.inl rfl) (pe_lst pa_nil))
        (pss_cons (ps_for PassesOwn.never rfl (pi_listK (K := K) (pe_ix (ix_tupK (K := K)) (pv 1) pe_int (fun _ _ => rfl))) (pg_name (i := 4) nd rfl (Or.inl rfl))
         (pss_one (ps_expr (pe_bmK (K := K) PySem.F.plainAttrs_list PySem.F.slot_list_extend PySem.F.type_list_extend mt_extend (pv 3) (pa_cons (pe_meth (pv 2) T.cl_Feed T.m_Feed_take F_Feed_take hr b_Feed_take .nil pass0 (pa_cons (pv 4) pa_nil)) pa_nil)))))
        (pss_one (ps_ret (pe_lst (pa_cons (pe_call F_show_cutting hr rfl T.g_show_cutting k_show_cutting b_show_cutting .nil pass0 (pa_cons (pv 3) pa_nil)) pa_nil)))))))) pss_nil)
      (pss_cons (ps_if (pt_cmpR op_eq (pe_ix (ix_tupK (K := K)) (pv 1) pe_int (fun _ _ => rfl)) pe_str (nomark _))
       (pss_cons (ps_if (pt_val (pe_meth0 (pv 2) T.cl_Feed T.m_Feed_closed F_Feed_closed hr b_Feed_closed .nil pass0))
         (pss_one (ps_ret (pe_lst (pa_cons pe_str pa_nil)))) pss_nil)
        (pss_one (ps_ret (pe_lst (pa_cons (pe_call F_show_cutting hr rfl T.g_show_cutting k_show_cutting b_show_cutting .nil pass0 (pa_cons (pe_meth0 (pv 2) T.cl_Feed T.m_Feed_close F_Feed_close hr b_Feed_close .nil pass0) pa_nil)) pa_nil))))) pss_nil)
      (pss_cons (ps_if (pt_cmpR op_eq (pe_ix (ix_tupK (K := K)) (pv 1) pe_int (fun _ _ => rfl)) pe_str (nomark _))
       (pss_one (ps_ret (pe_lst (pa_cons (pe_call F_show_cutting hr rfl T.g_show_cutting k_show_cutting b_show_cutting .nil pass0 (pa_cons (pe_meth0 (pv 2) T.cl_Feed T.m_Feed_sure F_Feed_sure hr b_Feed_sure .nil pass0) pa_nil)) pa_nil)))) pss_nil)
      (pss_cons (ps_if (pt_cmpR op_eq (pe_ix (ix_tupK (K := K)) (pv 1) pe_int (fun _ _ => rfl)) pe_str (nomark _))
       (pss_one (ps_ret (pe_lst (pa_cons (pe_callTy call_str_int (by rfl) T.f_str (by decide +kernel) (pa_cons (pe_meth0 (pv 2) T.cl_Feed T.m_Feed_settled F_Feed_settled hr b_Feed_settled .nil pass0) pa_nil)) pa_nil)))) pss_nil)
      (pss_one (ps_ret (pe_lst (pa_cons (pe_call F_show_cutting hr rfl T.g_show_cutting k_show_cutting b_show_cutting .nil pass0 (pa_cons (pe_meth0 (pv 2) T.cl_Feed T.m_Feed_cutting F_Feed_cutting hr b_Feed_cutting .nil pass0) pa_nil)) pa_nil)))))))), ?_⟩
  obtain ⟨d, t, f, cl, tl, dx, tab, s, r, a, s', rfl, F, I, hA, hok, hlt, W, N, hl, hans, q⟩ := h
  have hno : ∀ {m : Str} , (m == ("table" : Str)) = false → (m == ("came" : Str)) = false → (m == ("known" : Str)) = false → (m == ("ended" : Str)) = false → (ff tl cl s.known s.ended).lookup m = none := fun h1 h2 h3 h4 => ff_no _ _ _ _ h1 h2 h3 h4
  have closedV : ∀ {H' : Hp}, Ex H H' → ∀ {σ' : L2.St} {ta : TE} {E' : XK}, Ev ta σ' H' (.ref f) → Ev (tMeth (He.ga K "Feed") "closed" (sp_Feed_closed K) [] E' ta tNil) σ' H' (.bl s.ended) := fun {H'} e {σ' ta E'} h => ev_meth h (e _ _ F.ob) (hno (by decide +kernel) (by decide +kernel) (by decide +kernel) (by decide +kernel)) ea_nil fun H2 e2 Q k E => ⟨f, cl, tl, dx, tab, s, rfl, F.mono (e.trans e2), k⟩
  have leF : s.ns.length ≤ 200 := I.1
  cases r with
  | table tb => exact absurd hA id
  | take n more =>
    obtain ⟨am, hT, ham, hM⟩ := hA
    obtain ⟨hn, hcl, hc⟩ := hok
    have naf : am ≠ f := fun e => ham (by simp [e])
    have nac : am ≠ cl := fun e => ham (by simp [e])
    have hl' : s.ns.length + more.length ≤ 200 := hl
    have lenA : ∀ {H' : Hp}, Ex H H' → ∀ {σ' : L2.St} {ta : TE}, Ev ta σ' H' (.ref t) → Ev (tCB (rLenS K) (tCons (tOp (rIxT K) ta (tC (.int 2))) tNil)) σ' H' (.int (more.length : Int)) := fun {_} e {_} {_} h => ev_is (ev_len (ev_op h ev_c (rv_ixT (ex_t e hT) (v := .ref am) rfl)) (ex_l e hM)) (congrArg V.int (by rw [List.length_map]))
    refine q_when (eqt_true (ev_var rfl) hT) (fun _ H1 e1 => ?_) fun h => nomatch h
    refine q_when (et_and (a := s.ended) (b := decide ((more.length : Int) > 0)) (et_test (closedV e1 (ev_var rfl))) fun _ => et_test (ev_op (lenA e1 (ev_var rfl)) ev_c rv_I0)) (fun hb H2 e2 => ?_) fun hb H2 e2 => ?_
    · rw [Bool.and_eq_true, decide_eq_true_eq] at hb
      rw [ansF_take] at hans
      rw [if_pos hb.1, if_neg (fun e => by rw [e] at hb; simp at hb)] at hans
      obtain ⟨rfl, rfl⟩ := Prod.mk.inj (Option.some.inj hans)
      refine s_retL (el_lst (ea_cons ev_c ea_nil) (by decide)) fun p H3 hp e3 h3 => ?_
      have e13 := (e1.trans e2).trans e3
      exact q p H3 (ex_b2 e13 _ _) (F.mono e13) (fresh_back (e1.trans e2) hp) h3
    have e12 := e1.trans e2
    refine q_when (b := false) (et_is (et_test (ev_op (ev_op (ev_lenN (EvG.l (eg_meth (P := NewL (s.ns.map V.int)) (ev_var rfl) (e12 _ _ F.ob) (hno (by decide +kernel) (by decide +kernel) (by decide +kernel) (by decide +kernel)) ea_nil (fun H3 e3 Q k E => ⟨f, cl, tl, dx, tab, s, rfl, F.mono (e12.trans e3), fun p H4 hp e4 h4 => k _ H4 e4 ⟨p, rfl, hp, h4⟩⟩) newL_back))) (lenA e12 (ev_var rfl)) rv_I0) ev_c rv_I0)) (decide_eq_false (by rw [List.length_map]; omega))) (fun h => nomatch h) fun _ H3 e3 => ?_
    refine q_asgL (el_lst ea_nil (by decide)) fun l H4 hl4 e4 h4 => ?_
    have e13 := e12.trans e3
    have hlH : H l = none := fresh_back e13 hl4
    have e14 := e13.trans e4
    have nlf : l ≠ f := (ne_of_none F.ob hlH).symm
    have nlc : l ≠ cl := (ne_of_none F.came hlH).symm
    have hnew := pieOk_newlies (ns := s.ns) W N (fun c hx => (hc c hx).1) hl'
    refine q_forLn (ev_op (ev_var rfl) ev_c (rv_ixT (ex_t e14 hT) (v := .ref am) rfl)) (ex_l e14 hM) (fun i σ' H' => ∃ w4, σ' = [some (.ref d), some (.ref t), some (.ref f), some (.ref l), w4] ∧ FeedAt K H' f cl tl dx tab (stT tab s (more.take i)) ∧ RowsN K H' l ((newlies tab s.ns (more.take i)).map pieV) ∧ Ex2 f cl H H') ?_ ?_ ?_ ?_
    · intro H5 e5
      have e15 := e14.trans e5
      refine ⟨none, rfl, ?_, ?_, ex_b2 e15 _ _⟩
      · rw [List.take_zero, stT_nil I]
        exact F.mono e15
      · exact ⟨[], e5 _ _ h4, .nil⟩
    · rintro i σ' H' _ ⟨w4, rfl, _, _, b⟩
      exact b.seq hM naf nac
    · rintro i y σ' H5 hi ⟨w4, rfl, F5, R5, b5⟩
      obtain ⟨c, hci, rfl⟩ := map_get hi
      have hil := lt_of_get hci
      have hend : s.ended = false := by
        cases he : s.ended with
        | false => rfl
        | true =>
          have hne : ¬ more = [] := fun e => by rw [e] at hci; simp at hci
          rw [ansF_take] at hans
          rw [if_pos he, if_neg hne] at hans
          rw [he] at hb
          simp at hb
          exact absurd hb hne
      have est : stT tab s (more.take i) = ⟨s.ns ++ more.take i, (sure (s.ns ++ more.take i) tab).length, false⟩ := by
        unfold stT
        rw [if_neg (by rw [hend]; decide)]
      have est1 : stT tab s (more.take (i + 1)) = ⟨s.ns ++ more.take i ++ [c], (sure (s.ns ++ more.take i ++ [c]) tab).length, false⟩ := by
        unfold stT
        rw [if_neg (by rw [hend]; decide), List.take_succ_eq_append_getElem hil, (List.getElem?_eq_some_iff.mp hci).2, List.append_assoc]
      rw [est] at F5
      obtain ⟨ts, R5a, R5b⟩ := R5
      refine s_ext R5a (ev_var rfl) fun H6 e6 => ?_
      have F6 := F5.mono e6
      have R6 : RowsN K H6 l ((newlies tab s.ns (more.take i)).map pieV) := RowsN.mono ⟨ts, R5a, R5b⟩ e6
      refine t_meth (ev_var rfl) F6.ob (ff_no _ _ _ _ (by decide +kernel) (by decide +kernel) (by decide +kernel) (by decide +kernel)) (ea_cons (ev_var rfl) ea_nil) fun H7 e7 => ?_
      refine ⟨f, cl, tl, dx, c, tab, _, rfl, F6.mono e7, rfl, ?_, hlt, W, fun v H8 b8 F8 r8 => ?_⟩
      · show (s.ns ++ more.take i).length < 200
        rw [List.length_append, List.length_take]
        omega
      obtain ⟨pb, rfl, hpb, R8⟩ := r8
      have F7 := F6.mono e7
      have R7 := R6.mono e7
      have hl7 : H7 l = some (.lst (ts.map V.ref)) := e7 _ _ (e6 _ _ R5a)
      have R8l := b8.rowsN R7 F7.ob F7.came nlc
      refine kext R8l R8 ?_ fun H9 b9 R9 => ?_
      · have g1 := (pieOk_newlies (ns := s.ns) (more := more.take i) W N (fun c hx => (hc c (List.mem_of_mem_take hx)).1) (by rw [List.length_take]; omega)).1
        have g2 : (sure (s.ns ++ more.take i ++ [c]) tab).length ≤ 200 := Nat.le_trans (cut_len W _) (Nat.le_trans (settled_le W) (by rw [List.length_append, List.length_append, List.length_take, List.length_singleton]; omega))
        rw [List.length_map, List.length_map, List.length_drop]
        exact Nat.le_trans (Nat.add_le_add g1 (Nat.le_trans (Nat.sub_le _ _) g2)) (by decide)
      · have bb : Ex2 f cl H H9 := fun x o hx n1 n2 => b9 _ _ (b8 _ _ (e7 _ _ (e6 _ _ (b5 _ _ hx n1 n2))) n1 n2) (ne_of_none hx hlH)
        refine ⟨_, rfl, ?_, ?_, bb⟩
        · rw [est1]
          exact ⟨b9 _ _ F8.ob nlf.symm, b9 _ _ F8.came nlc.symm, bb.rowsL F.tabl F.ob F.came F.ne, F.ne⟩
        · rw [newlies_take hci, List.map_append]
          exact R9
    · rintro σ' H5 ⟨w4, rfl, F5, R5, b5⟩
      rw [List.length_map, List.take_length] at F5 R5
      refine s_retShow (ev_var (v := .ref l) rfl H5 (Ex.refl _) _ fun H6 e6 => kshow (R5.mono e6).l hnew fun p H7 hp e7 h7 => ?_)
      have e57 := e6.trans e7
      have ea : a = cutLine (newlies tab s.ns more) ∧ s' = stT tab s more := by
        rw [ansF_take] at hans
        unfold stT
        split at hans
        · rename_i he
          split at hans
          · rename_i hm
            obtain ⟨rfl, rfl⟩ := Prod.mk.inj (Option.some.inj hans)
            rw [hm, if_pos he]
            exact ⟨rfl, rfl⟩
          · rename_i hm
            rw [he] at hb
            simp at hb
            exact absurd hb hm
        · rename_i he
          obtain ⟨rfl, rfl⟩ := Prod.mk.inj (Option.some.inj hans)
          rw [if_neg he]
          exact ⟨rfl, rfl⟩
      obtain ⟨rfl, rfl⟩ := ea
      refine q p H7 (b5.trans (ex_b2 e57 _ _)) (F5.mono e57) ?_ h7
      have hp5 := fresh_back e6 hp
      cases q9 : H p with
      | none => rfl
      | some o =>
        by_cases h1 : p = f
        · rw [h1, F5.ob] at hp5
          cases hp5
        · by_cases h2 : p = cl
          · rw [h2, F5.came] at hp5
            cases hp5
          · rw [b5 _ _ q9 h1 h2] at hp5
            cases hp5
  | word w n =>
    have hT : SqT K H t [.str w, .str n] := hA
    rw [ansF_word] at hans
    have hw : w ≠ "take" := fun e => by
      have := hok.1
      rw [e] at this
      exact absurd this (by decide +kernel)
    refine q_when (eqt_false (ev_var rfl) hT hw) (fun h => nomatch h) fun _ H1 e1 => ?_
    refine q_when (eqt_dec (s := "close") (ev_var rfl) (ex_t e1 hT)) (fun hb H2 e2 => ?_) fun hb H2 e2 => ?_
    · have hw1 : w = "close" := of_decide_eq_true hb
      rw [if_pos hw1] at hans
      have hend : s.ended = false := by
        cases he : s.ended with
        | false => rfl
        | true =>
          rw [if_pos he] at hans
          cases hans
      rw [if_neg (by rw [hend]; decide)] at hans
      obtain ⟨rfl, rfl⟩ := Prod.mk.inj (Option.some.inj hans)
      have e12 := e1.trans e2
      refine q_when (b := false) (et_test (ev_is (closedV e12 (ev_var rfl)) (congrArg V.bl hend))) (fun h => nomatch h) fun _ H3 e3 => ?_
      have e13 := e12.trans e3
      refine s_retShow (t_meth (ev_var rfl) (e13 _ _ F.ob) (hno (by decide +kernel) (by decide +kernel) (by decide +kernel) (by decide +kernel)) ea_nil fun H4 e4 => ?_)
      have F4 := F.mono (e13.trans e4)
      refine ⟨f, cl, tl, dx, tab, s, rfl, F4, hend, leF, hlt, W, fun v H5 b5 F5 r5 => ?_⟩
      obtain ⟨pb, rfl, hpb, R5⟩ := r5
      refine kshow R5.l ((pieOk_cut W N leF).drop _) fun p H6 hp e6 h6 => ?_
      refine q p H6 (fun x o hx n1 _ => e6 _ _ (b5 _ _ ((e13.trans e4) _ _ hx) n1)) (F5.mono e6) ?_ h6
      cases q9 : H p with
      | none => rfl
      | some o =>
        by_cases h1 : p = f
        · rw [h1, F5.ob] at hp
          cases hp
        · rw [b5 _ _ ((e13.trans e4) _ _ q9) h1] at hp
          cases hp
    have e12 := e1.trans e2
    have hw1 : ¬ w = "close" := of_decide_eq_false hb
    rw [if_neg hw1] at hans
    refine q_when (eqt_dec (s := "sure") (ev_var rfl) (ex_t e12 hT)) (fun hb H3 e3 => ?_) fun hb H3 e3 => ?_
    · have hw2 : w = "sure" := of_decide_eq_true hb
      rw [if_pos hw2] at hans
      obtain ⟨rfl, rfl⟩ := Prod.mk.inj (Option.some.inj hans)
      have e13 := e12.trans e3
      refine s_retShow (eg_meth (P := NewR K ((sureF tab s).map pieV)) (ev_var rfl) (e13 _ _ F.ob) (hno (by decide +kernel) (by decide +kernel) (by decide +kernel) (by decide +kernel)) ea_nil (fun H4 e4 Q k E => ⟨f, cl, tl, dx, tab, s, rfl, F.mono (e13.trans e4), leF, hlt, W, k⟩) (fun _ _ _ _ e p => newR_back _ _ _ _ e p) H3 (Ex.refl _) _ fun v H4 e4 p4 => ?_)
      obtain ⟨pb, rfl, hpb, R4⟩ := p4
      refine kshow R4.l (pieOk_cut W N (Nat.le_trans (sure_le W s) leF)) fun p H5 hp e5 h5 => ?_
      have e15 := (e13.trans e4).trans e5
      exact q p H5 (ex_b2 e15 _ _) (F.mono e15) (fresh_back (e13.trans e4) hp) h5
    have e13 := e12.trans e3
    have hw2 : ¬ w = "sure" := of_decide_eq_false hb
    rw [if_neg hw2] at hans
    refine q_when (eqt_dec (s := "settled") (ev_var rfl) (ex_t e13 hT)) (fun hb H4 e4 => ?_) fun hb H4 e4 => ?_
    · have hw3 : w = "settled" := of_decide_eq_true hb
      rw [if_pos hw3] at hans
      obtain ⟨rfl, rfl⟩ := Prod.mk.inj (Option.some.inj hans)
      have e14 := e13.trans e4
      have hsl := sure_le W s
      refine s_retL (el_lst (ea_cons (ev_str (ev_meth (ev_var rfl) (e14 _ _ F.ob) (hno (by decide +kernel) (by decide +kernel) (by decide +kernel) (by decide +kernel)) ea_nil fun H5 e5 Q k E => ⟨f, cl, tl, dx, tab, s, rfl, F.mono (e14.trans e5), leF, hlt, W, k⟩) (log_ok (by omega) (by omega))) ea_nil) (by show 1 ≤ 100000; decide)) fun p H5 hp e5 h5 => ?_
      have e15 := e14.trans e5
      exact q p H5 (ex_b2 e15 _ _) (F.mono e15) (fresh_back e14 hp) h5
    have e14 := e13.trans e4
    have hw3 : ¬ w = "settled" := of_decide_eq_false hb
    rw [if_neg hw3] at hans
    have hw4 : w = "told" := by
      cases hd : decide (w = "told") with
      | true => exact of_decide_eq_true hd
      | false => rw [if_neg (of_decide_eq_false hd)] at hans; cases hans
    rw [if_pos hw4] at hans
    obtain ⟨rfl, rfl⟩ := Prod.mk.inj (Option.some.inj hans)
    refine s_retShow (eg_meth (P := NewR K ((told s.ns tab).map pieV)) (ev_var rfl) (e14 _ _ F.ob) (hno (by decide +kernel) (by decide +kernel) (by decide +kernel) (by decide +kernel)) ea_nil (fun H5 e5 Q k E => ⟨f, cl, tl, dx, tab, s, rfl, F.mono (e14.trans e5), leF, W, k⟩) (fun _ _ _ _ e p => newR_back _ _ _ _ e p) H4 (Ex.refl _) _ fun v H5 e5 p5 => ?_)
    obtain ⟨pb, rfl, hpb, R5⟩ := p5
    refine kshow R5.l (pieOk_cut W N leF) fun p H6 hp e6 h6 => ?_
    have e16 := (e14.trans e5).trans e6
    exact q p H6 (ex_b2 e16 _ _) (F.mono e16) (fresh_back (e14.trans e5) hp) h6
end Sv
namespace Sv
open PySem PySem.Spec PyProof.Rows L2 Evl TL
theorem ok_Desk_feed_said {P : Program} {w : World} {K : PySem.W.Frag} {mg : Str → Option Value} {base : Heap} {k : Nat} (T : Top K mg) (O_Feed_init : Ok P w K mg base k (He.ma K (He.ga K "Feed") "__init__") p_Feed_init (sp_Feed_init K)) (O_Desk_feed_lines : Ok P w K mg base (k + 1) (He.ma K (He.ga K "Desk") "feed_lines") p_Desk_feed_lines (sp_Desk_feed_lines K)) :
    Ok P w K mg base (k + 2) (He.ma K (He.ga K "Desk") "feed_said") p_Desk_feed_said (sp_Desk_feed_said K) := by
  obtain ⟨fd_Feed_init, F_Feed_init, b_Feed_init, k_Feed_init⟩ := O_Feed_init
  obtain ⟨fd_Desk_feed_lines, F_Desk_feed_lines, b_Desk_feed_lines, k_Desk_feed_lines⟩ := O_Desk_feed_lines
  obtain ⟨fd, FD⟩ := T.d_Desk_feed_said
  refine ⟨fd, FunD.ok FD sc_Desk_feed_said (fun vs H Q E h => by obtain ⟨_, _, _, _, _, _, _, _, rfl, _⟩ := h; rfl) (fun cdv A outer s H vs Q E hr h => ?_), FD.bindsN fun _ _ _ _ _ _ us hl => match us, hl with | [_, _], _ => rfl, FD.kp⟩
  have nd := sc_Desk_feed_said.nd
  have hu := hu_of hr
  refine ⟨_, PSs.nox (pss_cons (ps_set (i := 2) nd rfl (Or.inl rfl) (pe_ix (ix_tupK (K := K)) (pv 1) pe_int (fun _ _ => rfl)))
      (pss_cons (ps_if (pt_cmpR op_eq (pe_cmpR op_eq (pe_ix (ix_tupK (K := K)) (pv 1) pe_int (fun _ _ => rfl)) pe_str (nomark _)) (pe_cmp (pc_din hu (pv 2) (pe_fldK (K := K) (pv 0) rfl))) (nomark _))
       (pss_one (ps_ret (pe_lst (pa_cons pe_str pa_nil)))) pss_nil)
      (pss_cons (ps_if (pt_cmpR op_eq (pe_ix (ix_tupK (K := K)) (pv 1) pe_int (fun _ _ => rfl)) pe_str (nomark _))
       (pss_cons (ps_if (pt_cmpR op_ge (pe_callB call_lenD (by rfl) T.f_len (by decide +kernel) (pa_cons (pe_fldK (K := K) (pv 0) rfl) pa_nil)) (pe_glob (v := .int 12) rfl T.c_MOST_FEEDS.choose_spec ⟨_, rfl⟩) (nomark _))
         (pss_one (ps_ret (pe_lst (pa_cons pe_str pa_nil)))) pss_nil)
        (pss_cons (ps_dput hu (pe_fldK (K := K) (pv 0) rfl) (pv 2) (pe_make T.mk_Feed F_Feed_init hr rfl T.g_Feed b_Feed_init .nil pass0 (pa_cons (pe_fldK (K := K) (pv 0) rfl) pa_nil)) rfl)
        (pss_one (ps_ret (pe_lst (pa_cons pe_str pa_nil)))))) pss_nil)
      (pss_cons (ps_if (pt_cmpR op_eq (pe_ix (ix_tupK (K := K)) (pv 1) pe_int (fun _ _ => rfl)) pe_str (nomark _))
       (pss_cons (ps_expr (pe_dpop1 (pe_fldK (K := K) (pv 0) rfl) (pv 2) ⟨rfl, rfl, rfl, rfl⟩))
        (pss_one (ps_ret (pe_lst (pa_cons pe_str pa_nil))))) pss_nil)
      (pss_one (ps_ret (pe_meth (pv 0) T.cl_Desk T.m_Desk_feed_lines F_Desk_feed_lines hr b_Desk_feed_lines .nil pass0 (pa_cons (pv 1) (pa_cons (pe_dget hu (pe_fldK (K := K) (pv 0) rfl) (pv 2) (fun _ _ => rfl)) pa_nil))))))))), ?_⟩
  obtain ⟨d, t, own, A, tab, r, a, A', rfl, hD, hA, hok, hlt, W, N, hb, hst, q⟩ := h
  obtain ⟨fd, kl, frs, hown, hAeq, D0⟩ := hD
  obtain ⟨dx, st0, te0, un0, hd, hkl, hko, hkc⟩ := id D0.ob
  obtain ⟨rest, hT⟩ := asked_tup hA
  have hnt : ∀ tb, r ≠ .table tb := fun tb e => by rw [e] at hA; exact hA
  have hfd : H fd = some (.dK (kvsOf frs)) := D0.fds
  have fldF : ∀ {H' : Hp}, Ex H H' → ∀ {σ' : L2.St} {ta : TE}, Ev ta σ' H' (.ref d) → Ev (tFld K ta "feeds") σ' H' (.ref fd) := fun {_} e {_} {_} h => ev_fld h (e _ _ hd) T.cl_Desk T.n_Desk_feeds (df_feeds _ _ _ _ _)
  refine q_asg (ev_op (ev_var rfl) ev_c (rv_ixT hT atI_one)) fun H1 e1 => ?_
  cases hf : frs.find? (fun q => decide (q.name = r.name)) with
  | none =>
    have hg : A.get r.name = none := by rw [← hAeq, get_find, hf]; rfl
    have hv : valV (kvsOf frs) (Sum.inr r.name) = none := by rw [val_find, hf]; rfl
    obtain ⟨hw, h12, rfl, rfl⟩ := stepD_none hnt hg hst
    have hfl : frs.length < 12 := by
      rw [← hAeq, List.length_map] at h12
      exact h12
    have hkv : (kvsOf frs).length = frs.length := by unfold kvsOf; rw [List.length_map]
    have hT' : SqT K H t (.str "begin" :: .str r.name :: rest) := by rw [← hw]; exact hT
    refine q_when (b := false) (et_is (et_test (ev_op (ev_op (ev_op (ev_var rfl) ev_c (rv_ixT (ex_t e1 hT') atI_zero)) ev_c (rv_eq rfl)) (ev_din (k := Sum.inr r.name) (ev_var rfl) (fldF e1 (ev_var rfl)) (e1 _ _ hfd)) (rv_eq rfl))) ?_) (fun h => nomatch h) fun _ H2 e2 => ?_
    · rw [hv]
      exact decide_eq_false fun z => by
        have z1 := V.bl.inj z
        rw [decide_eq_true rfl] at z1
        cases z1
    have e12 := e1.trans e2
    refine q_when (eqt_true (ev_var rfl) (ex_t e12 hT')) (fun _ H3 e3 => ?_) fun h => nomatch h
    have e13 := e12.trans e3
    refine q_when (b := false) (et_is (et_test (ev_op (ev_lenD (fldF e13 (ev_var rfl)) (e13 _ _ hfd)) ev_c rv_I0)) (decide_eq_false (by rw [hkv]; omega))) (fun h => nomatch h) fun _ H4 e4 => ?_
    have e14 := e13.trans e4
    refine q_dputG (k := Sum.inr r.name) (eg_feed (tb := kl) (ev_fld (ev_var rfl) (e14 _ _ hd) T.cl_Desk T.n_Desk_kinds (df_kinds _ _ _ _ _)) (hkl.mono e14)) (fldF e14 (ev_var rfl)) (ev_var rfl) (e14 _ _ hfd) (by rw [hkv]; omega) fun v H5 H6 H7 e5 p5 e6 b7 h7 => ?_
    obtain ⟨p, cl, tl, dx', rfl, hp, hcl, htl, ⟨xs, hxs⟩, F5⟩ := p5
    have e16 := (e14.trans e5).trans e6
    have f6 : H6 fd = some (.dK (kvsOf frs)) := e16 _ _ hfd
    have nm : ∀ q ∈ frs, q.name ≠ r.name := find_none hf
    have D7 := DeskAt.add (r := ⟨r.name, p, cl, tl, dx', ⟨[], 0, false⟩⟩) (D0.mono e14) nm (H' := H7) (fun x o hx hn => b7 _ _ ((e5.trans e6) _ _ hx) hn) (by rw [h7]; exact congrArg (fun z => some (HO.dK z)) (kvs_put (r := ⟨r.name, p, cl, tl, dx', ⟨[], 0, false⟩⟩) nm)) hp hcl htl (FeedAt.dk b7 (F5.mono e6) f6) rfl W ⟨xs, b7 _ _ (e6 _ _ hxs) (ne_of (e6 _ _ hxs) f6 (by intro z; cases z))⟩
    refine s_retL (el_lst (ea_cons ev_c ea_nil) (by decide)) fun l H8 hl e8 h8 => ?_
    refine q _ l H8 ⟨fd, kl, _, rfl, ?_, D7.mono e8⟩ (fun x o hx hn => e8 _ _ (b7 _ _ (e16 _ _ hx) fun z => hn (by rw [z, hown]; exact mem_owns.mpr (.inr (.inl rfl))))) (fun x hx => ?_) ?_ h8
    · rw [List.map_append, hAeq]
      rfl
    · rw [mem_owns] at hx
      rcases hx with h | h | ⟨q, hq, h⟩ | ⟨q, hq, h⟩ | h | ⟨q, hq, h⟩
      · exact .inl (by rw [h, hown]; exact mem_owns.mpr (.inl rfl))
      · exact .inl (by rw [h, hown]; exact mem_owns.mpr (.inr (.inl rfl)))
      · rcases List.mem_append.mp hq with hq | hq
        · exact .inl (by rw [hown]; exact mem_owns.mpr (.inr (.inr (.inl ⟨q, hq, h⟩))))
        · have hq := List.mem_singleton.mp hq
          rw [hq] at h
          exact .inr (by rw [← h]; exact fresh_back e14 hp)
      · rcases List.mem_append.mp hq with hq | hq
        · exact .inl (by rw [hown]; exact mem_owns.mpr (.inr (.inr (.inr (.inl ⟨q, hq, h⟩)))))
        · have hq := List.mem_singleton.mp hq
          rw [hq] at h
          exact .inr (by rw [← h]; exact fresh_back e14 hcl)
      · exact .inl (by rw [h, hown]; exact mem_owns.mpr (.inr (.inr (.inr (.inr (.inl rfl))))))
      · rcases List.mem_append.mp hq with hq | hq
        · exact .inl (by rw [hown]; exact mem_owns.mpr (.inr (.inr (.inr (.inr (.inr ⟨q, hq, h⟩))))))
        · have hq := List.mem_singleton.mp hq
          rw [hq] at h
          exact .inr (by rw [← h]; exact fresh_back e14 htl)
    · cases q9 : H l with
      | none => rfl
      | some o =>
        by_cases hlf : l = fd
        · rw [hlf, h7] at hl
          cases hl
        · rw [b7 _ _ (e16 _ _ q9) hlf] at hl
          cases hl
  | some fr =>
    obtain ⟨hfr, hnm⟩ := find_some hf
    have hg : A.get r.name = some fr.s := by rw [← hAeq, get_find, hf]; rfl
    have hv : valV (kvsOf frs) (Sum.inr r.name) = some (.ref fr.f) := by rw [val_find, hf]; rfl
    obtain ⟨hnb, hcase⟩ := stepD_some hnt hg hst
    refine q_when (b := false) (et_is (et_test (ev_op (ev_op (ev_op (ev_var rfl) ev_c (rv_ixT (ex_t e1 hT) atI_zero)) ev_c (rv_eq rfl)) (ev_din (k := Sum.inr r.name) (ev_var rfl) (fldF e1 (ev_var rfl)) (e1 _ _ hfd)) (rv_eq rfl))) ?_) (fun h => nomatch h) fun _ H2 e2 => ?_
    · rw [hv]
      exact decide_eq_false fun z => by
        have z1 := V.bl.inj z
        rw [decide_eq_false (fun e => hnb (V.str.inj e))] at z1
        cases z1
    have e12 := e1.trans e2
    refine q_when (eqt_false (ev_var rfl) (ex_t e12 hT) hnb) (fun h => nomatch h) fun _ H3 e3 => ?_
    have e13 := e12.trans e3
    rcases hcase with ⟨hw, rfl, rfl⟩ | ⟨hw, s', hans, rfl⟩
    · have hT' : SqT K H t (.str "drop" :: .str r.name :: rest) := by rw [← hw]; exact hT
      refine q_when (eqt_true (ev_var rfl) (ex_t e13 hT')) (fun _ H4 e4 => ?_) fun h => nomatch h
      have e14 := e13.trans e4
      refine q_dpop (k := Sum.inr r.name) (fldF e14 (ev_var rfl)) (ev_var rfl) (e14 _ _ hfd) hv fun H5 b5 h5 => ?_
      rw [kvs_cut] at h5
      have D5 := DeskAt.cut (D0.mono e14) b5 h5
      refine s_retL (el_lst (ea_cons ev_c ea_nil) (by decide)) fun l H6 hl e6 h6 => ?_
      refine q _ l H6 ⟨fd, kl, _, rfl, ?_, D5.mono e6⟩ (fun x o hx hn => e6 _ _ (b5 _ _ (e14 _ _ hx) fun z => hn (by rw [z, hown]; exact mem_owns.mpr (.inr (.inl rfl))))) (fun x hx => ?_) ?_ h6
      · rw [cut_abs, hAeq]
      · refine .inl ?_
        rw [hown, mem_owns]
        rw [mem_owns] at hx
        rcases hx with h | h | ⟨q, hq, h⟩ | ⟨q, hq, h⟩ | h | ⟨q, hq, h⟩
        · exact .inl h
        · exact .inr (.inl h)
        · exact .inr (.inr (.inl ⟨q, (List.mem_filter.mp hq).1, h⟩))
        · exact .inr (.inr (.inr (.inl ⟨q, (List.mem_filter.mp hq).1, h⟩)))
        · exact .inr (.inr (.inr (.inr (.inl h))))
        · exact .inr (.inr (.inr (.inr (.inr ⟨q, (List.mem_filter.mp hq).1, h⟩))))
      · cases q9 : H l with
        | none => rfl
        | some o =>
          by_cases hlf : l = fd
          · rw [hlf, h5] at hl
            cases hl
          · rw [b5 _ _ (e14 _ _ q9) hlf] at hl
            cases hl
    · refine q_when (eqt_false (ev_var rfl) (ex_t e13 hT) hw) (fun h => nomatch h) fun _ H4 e4 => ?_
      have e14 := e13.trans e4
      have hlen := hb fr.s hg
      have I := D0.inv fr hfr
      have mf : fr.f ∈ own := by rw [hown, mem_owns]; exact .inr (.inr (.inl ⟨fr, hfr, rfl⟩))
      have mc : fr.cl ∈ own := by rw [hown, mem_owns]; exact .inr (.inr (.inr (.inl ⟨fr, hfr, rfl⟩)))
      have dno : ∀ {m : Str}, (m == ("kinds" : Str)) = false → (m == ("store" : Str)) = false → (m == ("feeds" : Str)) = false → (m == ("tellings" : Str)) = false → (m == ("undone" : Str)) = false → (df (.ref kl) st0 (.ref fd) te0 un0).lookup m = none := df_no _ _ _ _ _
      refine s_retRaw (t_meth (ev_var rfl) (e14 _ _ hd) (dno (by decide +kernel) (by decide +kernel) (by decide +kernel) (by decide +kernel) (by decide +kernel)) (ea_cons (ev_var rfl) (ea_cons (ev_dget (fldF e14 (ev_var rfl)) (ev_var rfl) (.inl (e14 _ _ hfd)) hv) ea_nil)) fun H5 e5 => ?_)
      have e15 := e14.trans e5
      have D5 := D0.mono e15
      refine ⟨d, t, fr.f, fr.cl, fr.tl, fr.dx, tab, fr.s, r, a, s', rfl, D5.at_ fr hfr, I, hA.mono e15 (fun x hx => ?_), hok, hlt, W, N, hlen, hans, fun l H6 b6 F6 hl h6 => ?_⟩
      · rcases (by simpa using hx : x = fr.f ∨ x = fr.cl) with h | h
        · rw [h]; exact mf
        · rw [h]; exact mc
      have D6 := D5.put hfr b6 F6 (ansF_inv hok I hlen hans)
      refine q own l H6 ⟨fd, kl, _, ?_, ?_, D6⟩ (fun x o hx hn => b6 _ _ (e15 _ _ hx) (fun z => hn (by rw [z]; exact mf)) fun z => hn (by rw [z]; exact mc)) (fun x hx => .inl hx) (fresh_back e15 hl) h6
      · rw [owns_up]
        exact hown
      · rw [put_abs, hAeq, hnm]
end Sv
namespace Sv
open PySem PySem.Spec PyProof.Rows L2 Evl TL
theorem ok_Desk_begun_anew {P : Program} {w : World} {K : PySem.W.Frag} {mg : Str → Option Value} {base : Heap} {k : Nat} (T : Top K mg) (O_Stock_init : Ok P w K mg base k (He.ma K (He.ga K "Stock") "__init__") p_Stock_init (sp_Stock_init K)) :
    Ok P w K mg base (k + 2) (He.ma K (He.ga K "Desk") "begun_anew") p_Desk_begun_anew (sp_Desk_begun_anew K) := by
  obtain ⟨fd_Stock_init, F_Stock_init, b_Stock_init, k_Stock_init⟩ := O_Stock_init
  obtain ⟨fd, FD⟩ := T.d_Desk_begun_anew
  refine ⟨fd, FunD.ok FD sc_Desk_begun_anew (fun vs H Q E h => by obtain ⟨_, _, _, _, _, _, rfl, _⟩ := h; rfl) (fun cdv A outer s H vs Q E hr h => ?_), FD.bindsN fun _ _ _ _ _ _ us hl => match us, hl with | [_, _], _ => rfl, FD.kp⟩
  have nd := sc_Desk_begun_anew.nd
  have hu := hu_of hr
  refine ⟨_, PSs.nox (pss_cons (ps_fldK (K := K) (pv 0) (pv 1) rfl)
      (pss_cons (ps_fldK (K := K) (pv 0) (pe_make T.mk_Stock F_Stock_init hr rfl T.g_Stock b_Stock_init .nil pass0 (pa_cons (pv 1) (pa_cons pe_int pa_nil))) rfl)
      (pss_cons (ps_fldK (K := K) (pv 0) pe_dnewK rfl)
      (pss_cons (ps_fldK (K := K) (pv 0) (pe_lst pa_nil) rfl)
      (pss_cons (ps_fldK (K := K) (pv 0) (pe_lst pa_nil) rfl)
      (pss_one (ps_ret (pe_lst (pa_cons pe_str pa_nil))))))))), ?_⟩
  obtain ⟨d, tb, own, A0, tab, tab', rfl, hD, hTb, ⟨tbx, hTo⟩, q⟩ := h
  obtain ⟨fd0, kl0, frs, hown, hA, D0⟩ := hD
  obtain ⟨dx, st0, te0, un0, hd, _, _, _⟩ := D0.ob
  have hdown : d ∈ own := by rw [hown]; simp [owns]
  refine q_fld (ev_var rfl) (ev_var rfl) hd T.cl_Desk T.n_Desk_kinds (by show 5 < 1000; decide) fun H2 e2 => ?_
  have b2 : ExB d H (upd H2 d (.ins (CD K) dx (putF "kinds" (.ref tb) (df (.ref kl0) st0 (.ref fd0) te0 un0)))) := (Ex.b e2 d).upd _
  have o2 : (upd H2 d (.ins (CD K) dx (putF "kinds" (.ref tb) (df (.ref kl0) st0 (.ref fd0) te0 un0)))) d = some (.ins (CD K) dx (putF "kinds" (.ref tb) (df (.ref kl0) st0 (.ref fd0) te0 un0))) := upd_same
  have l1 : (putF "kinds" (V.ref tb) (df (.ref kl0) st0 (.ref fd0) te0 un0)).length ≤ 6 := length_putF _ _ _
  generalize hF1 : putF "kinds" (V.ref tb) (df (.ref kl0) st0 (.ref fd0) te0 un0) = F1 at b2 o2 l1 ⊢
  generalize upd H2 d (.ins (CD K) dx F1) = G2 at b2 o2 ⊢
  have T2 := b2.rowsL hTb hd
  refine q_fldG (eg_stock (EvG.of (v := .ref tb) (ev_var rfl)) fun H1 v H2 e e' p => ?_) (ev_var rfl) o2 T.cl_Desk T.n_Desk_store (by omega) fun v H3 H4 e3 p3 e4 => ?_
  · obtain ⟨ts, hl, _⟩ := T2
    exact ⟨tb, _, p, ex_l (e.trans e') hl⟩
  obtain ⟨sx, rfl⟩ := p3
  have b4 : ExB d G2 (upd H4 d (.ins (CD K) dx (putF "store" (.ref sx) F1))) := (Ex.b (e3.trans e4) d).upd _
  have o4 : (upd H4 d (.ins (CD K) dx (putF "store" (.ref sx) F1))) d = some (.ins (CD K) dx (putF "store" (.ref sx) F1)) := upd_same
  have l4 : (putF "store" (.ref sx) F1).length ≤ 7 := Nat.le_trans (length_putF _ _ _) (by omega)
  generalize hF4 : putF "store" (V.ref sx) F1 = F4 at b4 o4 l4 ⊢
  generalize upd H4 d (.ins (CD K) dx F4) = G4 at b4 o4 ⊢
  refine q_fldG eg_dnew (ev_var rfl) o4 T.cl_Desk T.n_Desk_feeds (by omega) fun v H5 H6 e5 p5 e6 => ?_
  obtain ⟨fd, rfl, hfd, h5⟩ := p5
  have nfp : fd ≠ d := (ne_of_none o4 hfd).symm
  have b6 : ExB d G4 (upd H6 d (.ins (CD K) dx (putF "feeds" (.ref fd) F4))) := (Ex.b (e5.trans e6) d).upd _
  have o6 : (upd H6 d (.ins (CD K) dx (putF "feeds" (.ref fd) F4))) d = some (.ins (CD K) dx (putF "feeds" (.ref fd) F4)) := upd_same
  have f6 : (upd H6 d (.ins (CD K) dx (putF "feeds" (.ref fd) F4))) fd = some (.dK []) := by rw [upd_ne nfp]; exact e6 _ _ h5
  have l6 : (putF "feeds" (.ref fd) F4).length ≤ 8 := Nat.le_trans (length_putF _ _ _) (by omega)
  generalize hF6 : putF "feeds" (V.ref fd) F4 = F6 at b6 o6 f6 l6 ⊢
  generalize upd H6 d (.ins (CD K) dx F6) = G6 at b6 o6 f6 ⊢
  refine q_fldG (EvL.g (el_lst ea_nil (by decide))) (ev_var rfl) o6 T.cl_Desk T.n_Desk_tellings (by omega) fun v H7 H8 e7 p7 e8 => ?_
  obtain ⟨te, rfl, _, _⟩ := p7
  have l8 : (putF "tellings" (.ref te) F6).length ≤ 9 := Nat.le_trans (length_putF _ _ _) (by omega)
  refine q_fldG (EvL.g (el_lst ea_nil (by decide))) (ev_var rfl) upd_same T.cl_Desk T.n_Desk_undone (by omega) fun v H9 HA e9 p9 eA => ?_
  obtain ⟨un, rfl, _, _⟩ := p9
  have efs : putF "undone" (V.ref un) (putF "tellings" (V.ref te) F6) = df (.ref tb) (.ref sx) (.ref fd) (.ref te) (.ref un) := by
    rw [← hF6, ← hF4, ← hF1]
    exact df_again _ _ _ _ _ _ _ _ _ _
  rw [efs]
  have b8 : ExB d G6 (upd HA d (.ins (CD K) dx (df (.ref tb) (.ref sx) (.ref fd) (.ref te) (.ref un)))) := fun a o ha hn => by
    rw [upd_ne hn]
    refine (e9.trans eA) _ _ ?_
    rw [upd_ne hn]
    exact (e7.trans e8) _ _ ha
  have o8 : (upd HA d (.ins (CD K) dx (df (.ref tb) (.ref sx) (.ref fd) (.ref te) (.ref un)))) d = some (.ins (CD K) dx (df (.ref tb) (.ref sx) (.ref fd) (.ref te) (.ref un))) := upd_same
  generalize upd HA d (.ins (CD K) dx (df (.ref tb) (.ref sx) (.ref fd) (.ref te) (.ref un))) = G8 at b8 o8 ⊢
  have ball : ExB d H G8 := fun a o ha hn => b8 _ _ (b6 _ _ (b4 _ _ (b2 _ _ ha hn) hn) hn) hn
  have hfdH : H fd = none := by
    cases q9 : H fd with
    | none => rfl
    | some o =>
      rw [b4 _ _ (b2 _ _ q9 nfp) nfp] at hfd
      cases hfd
  have T8 := ball.rowsL hTb hd
  refine s_retL (el_lst (ea_cons ev_c ea_nil) (by decide)) fun p H9 hp9 e99 h99 => ?_
  have hpH : H p = none := by
    cases q9 : H p with
    | none => rfl
    | some o =>
      by_cases hpd : p = d
      · rw [hpd, o8] at hp9
        cases hp9
      · rw [ball _ _ q9 hpd] at hp9
        cases hp9
  refine q (owns d fd tb []) p H9 ⟨fd, tb, [], rfl, rfl, ⟨⟨dx, _, _, _, e99 _ _ o8, T8.mono e99, ⟨tbx, e99 _ _ (ball _ _ hTo (ne_of hTo hd (by intro z; cases z)))⟩, by simp⟩, e99 _ _ (b8 _ _ f6 nfp), by simp, by simp, by simp, by simp, by simp, by simp, by simp⟩⟩ (fun a o ha hn => e99 _ _ (ball _ _ ha fun z => hn (by rw [z]; exact hdown))) (fun a ha => ?_) hpH h99
  have ha' : a = d ∨ a = fd ∨ a = tb := by simpa [owns] using ha
  rcases ha' with h | h | h
  · exact .inl (by rw [h]; exact hdown)
  · exact .inr (.inr (by rw [h]; exact hfdH))
  · exact .inr (.inl h)
end Sv
namespace Sv
open PySem PySem.Spec PyProof.Rows L2 Evl TL
theorem reqAt_back {K : PySem.W.Frag} {H H1 H2 : Hp} {t : Addr} {r : Req} (e : Ex H H1) (h : ReqAt K H1 H2 t r) : ReqAt K H H2 t r := by
  cases r with
  | table tab =>
    obtain ⟨a, h1, h2, h3⟩ := h
    exact ⟨a, h1, fresh_back e h2, h3⟩
  | word w n => exact h
  | take n ns =>
    obtain ⟨a, h1, h2, h3⟩ := h
    exact ⟨a, h1, fresh_back e h2, h3⟩
theorem q_thruG {σ : L2.St} {H : Hp} {te : TE} {D : Ends} {tz : TS} {i : Nat} {P : Hp → V → Hp → Prop} (h : EvG te σ H P) (k : ∀ v H1, Ex H H1 → P H v H1 → tz D (σ.set i (some v)) H1) : tSeq (tThru (tAsg te (gName i)) tNext) tz D σ H := h H (Ex.refl _) _ fun v H1 e p => k v H1 e p
theorem s_thru {σ : L2.St} {H : Hp} {t : TS} {D : Ends} (h : t { D with nx := D.nx } σ H) : tThru t tNext D σ H := h
theorem ok_Desk_say {P : Program} {w : World} {K : PySem.W.Frag} {mg : Str → Option Value} {base : Heap} {k : Nat} (T : Top K mg) (O_read_line : Ok P w K mg base k (He.ga K "read_line") p_read_line (sp_read_line K)) (O_Desk_feed_said : Ok P w K mg base k (He.ma K (He.ga K "Desk") "feed_said") p_Desk_feed_said (sp_Desk_feed_said K)) (O_Desk_begun_anew : Ok P w K mg base k (He.ma K (He.ga K "Desk") "begun_anew") p_Desk_begun_anew (sp_Desk_begun_anew K)) :
    Ok P w K mg base (k + 1) (He.ma K (He.ga K "Desk") "say") p_Desk_say (sp_Desk_say K) := by
  obtain ⟨fd_read_line, F_read_line, b_read_line, k_read_line⟩ := O_read_line
  obtain ⟨fd_Desk_feed_said, F_Desk_feed_said, b_Desk_feed_said, k_Desk_feed_said⟩ := O_Desk_feed_said
  obtain ⟨fd_Desk_begun_anew, F_Desk_begun_anew, b_Desk_begun_anew, k_Desk_begun_anew⟩ := O_Desk_begun_anew
  obtain ⟨fd, FD⟩ := T.d_Desk_say
  refine ⟨fd, FunD.ok FD sc_Desk_say (fun vs H Q E h => by obtain ⟨_, _, _, _, _, _, _, _, _, rfl, _⟩ := h; rfl) (fun cdv A outer s H vs Q E hr h => ?_), FD.bindsN fun _ _ _ _ _ _ us hl => match us, hl with | [_, _], _ => rfl, FD.kp⟩
  have nd := sc_Desk_say.nd
  have hu := hu_of hr
  refine ⟨_, PSs.nox (pss_cons (ps_try_thru0 (pss_one (ps_set (i := 2) nd rfl (Or.inl rfl) (pe_call F_read_line hr rfl T.g_read_line k_read_line b_read_line .nil pass0 (pa_cons (pe_fldK (K := K) (pv 0) rfl) (pa_cons (pv 1) pa_nil))))))
      (pss_cons (ps_if (PW.pt (pw_or (pt_cmpR (op_in_seqK (K := K)) (pe_ix (ix_tupK (K := K)) (pv 2) pe_int (fun _ _ => rfl)) (pe_glob (v := .ref (He.ga K "NAME_WORDS")) rfl T.g_NAME_WORDS rfl) rfl) (pw_or1 (pt_cmpR op_eq (pe_ix (ix_tupK (K := K)) (pv 2) pe_int (fun _ _ => rfl)) pe_str (nomark _)))))
       (pss_one (ps_ret (pe_meth (pv 0) T.cl_Desk T.m_Desk_feed_said F_Desk_feed_said hr b_Desk_feed_said .nil pass0 (pa_cons (pv 2) pa_nil)))) pss_nil)
      (pss_one (ps_try_thru0 (pss_cons (ps_if (PW.pt (pw_or (pt_cmpR (op_in_seqK (K := K)) (pe_ix (ix_tupK (K := K)) (pv 2) pe_int (fun _ _ => rfl)) (pe_glob (v := .ref (He.ga K "LONE_WORDS")) rfl T.g_LONE_WORDS rfl) rfl) (pw_or1 (pt_cmpR (op_in_seqK (K := K)) (pe_ix (ix_tupK (K := K)) (pv 2) pe_int (fun _ _ => rfl)) (pe_tup (pa_cons pe_str (pa_cons pe_str (pa_cons pe_str pa_nil)))) rfl))))
         pss_never pss_nil)
        (pss_cons (ps_if (pt_cmpR op_eq (pe_ix (ix_tupK (K := K)) (pv 2) pe_int (fun _ _ => rfl)) pe_str (nomark _))
         (pss_one (ps_ret (pe_meth (pv 0) T.cl_Desk T.m_Desk_begun_anew F_Desk_begun_anew hr b_Desk_begun_anew .nil pass0 (pa_cons (pe_ix (ix_tupK (K := K)) (pv 2) pe_int (fun _ _ => rfl)) pa_nil)))) pss_nil)
        (pss_one ps_never))))))), ?_⟩
  obtain ⟨d, line, own, A, tab, r, a, tab', A', rfl, hline, hok, hD, hlt, W, N, hb, hst, q⟩ := h
  obtain ⟨dx, kl, st0, fd0, te0, un0, hd, hkl⟩ := hD.obj
  have dno : ∀ {m : Str}, (m == ("kinds" : Str)) = false → (m == ("store" : Str)) = false → (m == ("feeds" : Str)) = false → (m == ("tellings" : Str)) = false → (m == ("undone" : Str)) = false → (df (.ref kl) st0 (.ref fd0) te0 un0).lookup m = none := df_no _ _ _ _ _
  refine q_thruG (P := fun H v H2 => ∃ t, v = .ref t ∧ ReqAt K H H2 t r) (eg_call (ea_cons (ev_fld (ev_var rfl) hd T.cl_Desk T.n_Desk_kinds (df_kinds _ _ _ _ _)) (ea_cons (ev_var rfl) ea_nil)) (fun H1 e1 Q k E => ⟨kl, line, r, rfl, hline, hok, fun t H2 e2 h2 => k _ H2 e2 ⟨t, rfl, h2⟩⟩) fun _ _ _ _ e p => ?_) fun v H1 e1 p1 => ?_
  · obtain ⟨t, h1, h2⟩ := p
    exact ⟨t, h1, reqAt_back e h2⟩
  obtain ⟨t, rfl, hR⟩ := p1
  have hlive := hD.live
  have nown : ∀ {x : Addr}, H x = none → x ∉ own := fun hx hm => by
    obtain ⟨o, ho⟩ := hlive _ hm
    rw [ho] at hx
    cases hx
  have inName : ∀ {H' : Hp} {b : Bool} {w : Str}, ∀ {σ' : L2.St} {ta : TE}, Ev ta σ' H' (.str w) → inV (.str w) NAMEW = b → EvT (tTest (tOp (rIn K false) ta (tC (.ref (He.ga K "NAME_WORDS"))))) σ' H' b := fun h hf => et_is (et_test (ev_op h ev_c (rv_isT (T.t_NAME_WORDS _) rfl rfl))) hf
  have said : ∀ H3, Ex H1 H3 → Asked K H1 t own r → tab' = tab → ∀ E', sp_Desk_feed_said K [.ref d, .ref t] H3 Q E' := fun H3 e3 hA et E' => by
    have e13 := e1.trans e3
    refine ⟨d, t, own, A, tab, r, a, A', rfl, hD.mono e13, hA.mono e3 (fun x hx => hx), hok, hlt, W, N, hb, by rw [et] at hst; exact hst, fun own' p H4 D4 f4 g4 hp h4 => ?_⟩
    exact q own' p H4 (by rw [et]; exact D4) (fun x o hx hn => f4 _ _ (e13 _ _ hx) hn) (fun x hx => (g4 x hx).imp id fun h => fresh_back e13 h) (fresh_back e13 hp) h4
  cases r with
  | word w n =>
    have hT : SqT K H1 t [.str w, .str n] := st_of hR
    have et : tab' = tab := by
      cases hg : A.get n with
      | none =>
        simp only [stepD, hg] at hst
        split at hst
        · exact (Prod.mk.inj (Prod.mk.inj (Option.some.inj hst)).2).1.symm
        · cases hst
      | some s =>
        simp only [stepD, hg] at hst
        split at hst
        · exact (Prod.mk.inj (Prod.mk.inj (Option.some.inj hst)).2).1.symm
        · cases ha : ansF tab s (.word w n) with
          | none => rw [ha] at hst; cases hst
          | some q => rw [ha] at hst; exact (Prod.mk.inj (Prod.mk.inj (Option.some.inj hst)).2).1.symm
    obtain ⟨_, _, _, _, _, f6⟩ := word_facts w hok.1
    refine q_when (b := true) (et_is (et_or (a := true) (b := true) (inName (ev_op (ev_var rfl) ev_c (rv_ixT hT rfl)) f6) fun h => nomatch h) rfl) (fun _ H2 e2 => ?_) fun h => nomatch h
    exact s_retRaw (t_meth (ev_var rfl) ((e1.trans e2) _ _ hd) (dno (by decide +kernel) (by decide +kernel) (by decide +kernel) (by decide +kernel) (by decide +kernel)) (ea_cons (ev_var rfl) ea_nil) fun H3 e3 => said H3 (e2.trans e3) hT et _)
  | take n ns =>
    obtain ⟨am, h1, h2, h3⟩ := hR
    have hT : SqT K H1 t [.str "take", .str n, .ref am] := st_of h1
    have et : tab' = tab := by
      cases hg : A.get n with
      | none =>
        simp only [stepD, hg] at hst
        cases hst
      | some s =>
        simp only [stepD, hg] at hst
        cases ha : ansF tab s (.take n ns) with
        | none => rw [ha] at hst; cases hst
        | some q => rw [ha] at hst; exact (Prod.mk.inj (Prod.mk.inj (Option.some.inj hst)).2).1.symm
    refine q_when (b := true) (et_is (et_or (a := false) (b := true) (inName (b := false) (ev_op (ev_var rfl) ev_c (rv_ixT hT rfl)) (by decide +kernel)) fun _ => eqt_true (ev_var rfl) hT) rfl) (fun _ H2 e2 => ?_) fun h => nomatch h
    exact s_retRaw (t_meth (ev_var rfl) ((e1.trans e2) _ _ hd) (dno (by decide +kernel) (by decide +kernel) (by decide +kernel) (by decide +kernel) (by decide +kernel)) (ea_cons (ev_var rfl) ea_nil) fun H3 e3 => said H3 (e2.trans e3) ⟨am, hT, nown h2, sq_of h3⟩ et _)
  | table tb =>
    obtain ⟨am, h1, h2, h3⟩ := hR
    have hT : SqT K H1 t [.str "table", .ref am] := st_of h1
    simp only [stepD] at hst
    obtain ⟨rfl, hst2⟩ := Prod.mk.inj (Option.some.inj hst)
    obtain ⟨rfl, rfl⟩ := Prod.mk.inj hst2
    refine q_when (b := false) (et_is (et_or (a := false) (b := false) (inName (b := false) (ev_op (ev_var rfl) ev_c (rv_ixT hT rfl)) (by decide +kernel)) fun _ => eqt_false (ev_var rfl) hT (by decide +kernel)) rfl) (fun h => nomatch h) fun _ H2 e2 => ?_
    refine q_when (b := false) (et_is (et_or (a := false) (b := false) (et_is (et_test (ev_op (ev_op (ev_var rfl) ev_c (rv_ixT (ex_t e2 hT) rfl)) ev_c (rv_isT (T.t_LONE_WORDS _) rfl rfl))) (by decide +kernel)) fun _ => et_is (et_test (ev_inU (ev_op (ev_var rfl) ev_c (rv_ixT (ex_t e2 hT) rfl)) (eu_tup (ea_cons ev_c (ea_cons ev_c (ea_cons ev_c ea_nil))) (by decide)) rfl rfl)) (by decide +kernel)) rfl) (fun h => nomatch h) fun _ H3 e3 => ?_
    have e13 := e2.trans e3
    refine q_when (eqt_true (ev_var rfl) (ex_t e13 hT)) (fun _ H4 e4 => ?_) fun h => nomatch h
    have e14 := e13.trans e4
    refine s_retRaw (t_meth (ev_var rfl) ((e1.trans e14) _ _ hd) (dno (by decide +kernel) (by decide +kernel) (by decide +kernel) (by decide +kernel) (by decide +kernel)) (ea_cons (ev_op (ev_var rfl) ev_c (rv_ixT (ex_t e14 hT) (v := .ref am) rfl)) ea_nil) fun H5 e5 => ?_)
    have e15 := e14.trans e5
    have e05 := e1.trans e15
    obtain ⟨ts, hl3, _⟩ := id h3
    refine ⟨d, am, own, A, tab, _, rfl, hD.mono e05, (h3.mono e15).l, ⟨_, e15 _ _ hl3⟩, fun own' p H6 D6 f6 g6 hp h6 => ?_⟩
    exact q own' p H6 D6 (fun x o hx hn => f6 _ _ (e05 _ _ hx) hn) (fun x hx => (g6 x hx).imp id fun h => h.elim (fun h => by rw [h]; exact h2) fun h => fresh_back e05 h) (fresh_back e05 hp) h6
end Sv
namespace Sv
open PySem PySem.Spec PyProof.Rows L2 Evl TL
theorem ok_law_said {P : Program} {w : World} {K : PySem.W.Frag} {mg : Str → Option Value} {base : Heap} {k : Nat} (T : Top K mg) (O_Desk_say : Ok P w K mg base k (He.ma K (He.ga K "Desk") "say") p_Desk_say (sp_Desk_say K)) :
    Ok P w K mg base (k + 1) (He.ga K "_law_said") p_law_said (sp_law_said K) := by
  obtain ⟨fd_Desk_say, F_Desk_say, b_Desk_say, k_Desk_say⟩ := O_Desk_say
  obtain ⟨fd, FD⟩ := T.d_law_said
  refine ⟨fd, FunD.ok FD sc_law_said (fun vs H Q E h => by obtain ⟨_, _, _, _, _, _, _, _, _, _, rfl, _⟩ := h; rfl) (fun cdv A outer s H vs Q E hr h => ?_), FD.bindsN fun _ _ _ _ _ _ us hl => match us, hl with | [_, _, _], _ => rfl, FD.kp⟩
  have nd := sc_law_said.nd
  have hu := hu_of hr
  refine ⟨_, PSs.nox (pss_cons (ps_set (i := 3) nd rfl (Or.inl rfl) (pe_meth (pv 0) T.cl_Desk T.m_Desk_say F_Desk_say hr b_Desk_say .nil pass0 (pa_cons (pv 1) pa_nil)))
      (pss_one (ps_ret (pe_and (pe_callB (call_isiK (K := K)) (by rfl) T.f_isinstance (by decide +kernel) (pa_cons (pv 3) (pa_cons (pe_bltn (v := .ty "list") rfl T.f_list (by decide +kernel) rfl) pa_nil))) (pe_one (pe_cmpR (op_eqDK (K := K) hr.units) (pv 3) (pv 2) (nomark _))))))), ?_⟩
  obtain ⟨d, u, line, own, A, tab, r, a, tab', A', rfl, hl, hr, hD, hu, hn, hs, h1, h2, h3, h4, hst, q⟩ := h
  obtain ⟨dx, kl, st0, fd0, te0, un0, hd, hkl⟩ := hD.obj
  refine q_asgRaw (t_meth (ev_var rfl) hd (df_no _ _ _ _ _ (by decide +kernel) (by decide +kernel) (by decide +kernel) (by decide +kernel) (by decide +kernel)) (ea_cons (ev_var rfl) ea_nil) fun H1 e1 => ?_)
  refine ⟨d, line, own, A, tab, r, a, tab', A', rfl, hl, hr, hD.mono e1, h1, h2, h3, h4, hst, fun own' p H2 D2 f2 g2 hp h5 => ?_⟩
  have hu2 : H2 u = some (.lst [.str a]) := f2 _ _ (e1 _ _ hu) hn
  refine s_ret (ev_is (ev_andV (a := true) (b := true) (ev_isiL (ev_var rfl) h5) fun _ => ev_is (ev_op (ev_var rfl) (ev_var rfl) (rv_eq1 (sq_of h5) (sq_of hu2) hs hs)) (by rw [beq_self_eq_true])) rfl) fun H3 e3 => q own' H3 (D2.mono e3) ((Pass.ex e1).trans (Pass.trans ⟨f2, g2⟩ (Pass.ex e3)))
end Sv
namespace Sv
open PySem PySem.Spec PyProof.Rows L2 Evl TL
theorem ok_law_sums {P : Program} {w : World} {K : PySem.W.Frag} {mg : Str → Option Value} {base : Heap} {k : Nat} (T : Top K mg)  :
    Ok P w K mg base (k + 1) (He.ga K "_law_sums") p_law_sums (sp_law_sums K) := by
  obtain ⟨fd, FD⟩ := T.d_law_sums
  refine ⟨fd, FunD.ok FD sc_law_sums (fun vs H Q E h => by obtain ⟨_, _, rfl, _⟩ := h; rfl) (fun cdv A outer s H vs Q E hr h => ?_), FD.bindsN fun _ _ _ _ _ _ us hl => match us, hl with | [_], _ => rfl, FD.kp⟩
  have nd := sc_law_sums.nd
  have hu := hu_of hr
  refine ⟨_, PSs.nox (pss_cons (ps_set (i := 1) nd rfl (Or.inl rfl) (pe_lst (pa_cons pe_int pa_nil)))
      (pss_cons (ps_for PassesOwn.never rfl (pi_listK (K := K) (pv 0)) (pg_name (i := 2) nd rfl (Or.inl rfl))
       (pss_one (ps_expr (pe_bmK (K := K) PySem.F.plainAttrs_list PySem.F.slot_list_append PySem.F.type_list_append mt_append (pv 1) (pa_cons (pe_op op_add (pe_ix (ix_listK (K := K)) (pv 1) (pe_un un_neg pe_int) (fun _ _ => rfl)) (pv 2)) pa_nil)))))
      (pss_one (ps_ret (pv 1))))), ?_⟩
  obtain ⟨a, ns, rfl, hS, hl, q⟩ := h
  refine q_asgL (el_lst (ea_cons ev_c ea_nil) (by decide)) fun p H1 hp e1 h1 => ?_
  refine q_forLn (ev_var rfl) (ex_l e1 hS) (fun i σ' H' => ∃ v, σ' = [some (.ref a), some (.ref p), v] ∧ Ex H H' ∧ H' p = some (.lst (((List.range (i + 1)).map (sm ns)).map V.int))) ?_ ?_ ?_ ?_
  · exact fun H2 e2 => ⟨none, rfl, e1.trans e2, e2 _ _ h1⟩
  · rintro i σ' H' _ ⟨v, rfl, e, hq⟩
    exact ex_l e hS
  · rintro i x σ' H' hi ⟨v, rfl, e, hq⟩
    obtain ⟨c, hc, rfl⟩ := map_get hi
    have hi2 := lt_of_get hc
    refine s_app (xs := ((List.range (i + 1)).map (sm ns)).map V.int) hq (ev_var rfl) (ev_op (x := V.int (sm ns i)) (y := V.int c) (ev_op (ev_var rfl) (ev_un ev_c ru_neg) (rv_ixL (sq_of hq) (atI_neg1 (n := i) (by simp) (get_map (get_map (range_get (by omega))))))) (ev_var rfl) rv_I0) (by simp; omega) fun H2 e2 => ?_
    refine ⟨_, rfl, Ex.mut (e.trans e2) hp, ?_⟩
    rw [upd_same, List.range_succ (n := i + 1), List.map_append, List.map_append]
    simp only [List.map_cons, List.map_nil]
    rw [sm_succ hc]
  · rintro σ' H' ⟨v, rfl, e, hq⟩
    refine s_ret (ev_var rfl) fun H2 e2 => q p H2 hp (e.trans e2) (e2 _ _ ?_)
    rw [hq, List.length_map]
    rfl
end Sv
namespace Sv
open PySem PySem.Spec PyProof.Rows L2 Evl TL
theorem ok_law_good {P : Program} {w : World} {K : PySem.W.Frag} {mg : Str → Option Value} {base : Heap} {k : Nat} (T : Top K mg)  :
    Ok P w K mg base (k + 1) (He.ga K "_law_good") p_law_good (sp_law_good K) := by
  obtain ⟨fd, FD⟩ := T.d_law_good
  refine ⟨fd, FunD.ok FD sc_law_good (fun vs H Q E h => by obtain ⟨_, _, _, _, _, _, rfl, _⟩ := h; rfl) (fun cdv A outer s H vs Q E hr h => ?_), FD.bindsN fun _ _ _ _ _ _ us hl => match us, hl with | [_, _, _], _ => rfl, FD.kp⟩
  have nd := sc_law_good.nd
  have hu := hu_of hr
  refine ⟨_, PSs.nox (pss_cons (ps_set (i := 3) nd rfl (Or.inl rfl) (pe_op op_add (pv 2) (pe_ix (ix_tupK (K := K)) (pv 1) pe_int (fun _ _ => rfl))))
      (pss_cons (ps_if (PW.pt (pw_or (pt_cmpR op_lt (pv 2) pe_int (nomark _)) (pw_or1 (pt_cmpR op_ge (pv 3) (pe_callB (call_lenK (K := K)) (by rfl) T.f_len (by decide +kernel) (pa_cons (pv 0) pa_nil)) (nomark _)))))
       (pss_one (ps_ret pe_bl)) pss_nil)
      (pss_one (ps_ret (pe_cmpR op_le (pe_op op_sub (pe_ix (ix_listK (K := K)) (pv 0) (pv 3) (fun _ _ => rfl)) (pe_ix (ix_listK (K := K)) (pv 0) (pv 2) (fun _ _ => rfl))) (pe_ix (ix_tupK (K := K)) (pv 1) pe_int (fun _ _ => rfl)) (nomark _)))))), ?_⟩
  obtain ⟨s, t, z, e, ns, kd, rfl, hS, hT, he, rfl, q⟩ := h
  refine q_asg (ev_op (ev_var rfl) (ev_op (ev_var rfl) ev_c (rv_ixT hT (kind_at1 kd))) rv_I0) fun H1 e1 => ?_
  have ee : (e : Int) - (kd.width : Int) + (kd.width : Int) = (e : Int) := by omega
  by_cases hw : kd.width ≤ e
  · have ez : (e : Int) - (kd.width : Int) = ((e - kd.width : Nat) : Int) := by omega
    refine q_when (b := false) (et_is (et_or (a := false) (b := false) (et_is (et_test (ev_op (ev_var rfl) ev_c rv_I0)) (decide_eq_false (by omega))) fun _ => et_is (et_test (ev_op (ev_var rfl) (ev_len (ev_var rfl) (ex_l e1 hS)) rv_I0)) (decide_eq_false (by rw [List.length_map, sums_len]; omega))) rfl) (fun h => nomatch h) fun _ H2 e2 => ?_
    have e12 := e1.trans e2
    refine s_ret (ev_is (ev_op (ev_op (ev_op (ev_var rfl) (ev_var rfl) (rv_ixL (ex_l e12 hS) (sums_at ee he))) (ev_op (ev_var rfl) (ev_var rfl) (rv_ixL (ex_l e12 hS) (sums_at ez (by omega)))) rv_I0) (ev_op (ev_var rfl) ev_c (rv_ixT (ex_t e12 hT) (kind_at3 kd))) rv_I0) ?_) fun H3 e3 => q H3 (e12.trans e3)
    unfold good
    rw [decide_eq_true hw, decide_eq_true he]
    rfl
  · refine q_when (b := true) (et_is (et_or (a := true) (b := true) (et_is (et_test (ev_op (ev_var rfl) ev_c rv_I0)) (decide_eq_true (by omega))) fun h => nomatch h) rfl) (fun _ H2 e2 => ?_) fun h => nomatch h
    refine s_ret (ev_is ev_c ?_) fun H3 e3 => q H3 ((e1.trans e2).trans e3)
    unfold good
    rw [decide_eq_false hw]
    rfl
end Sv
namespace Sv
open PySem PySem.Spec PyProof.Rows L2 Evl TL
theorem ok_law_heights {P : Program} {w : World} {K : PySem.W.Frag} {mg : Str → Option Value} {base : Heap} {k : Nat} (T : Top K mg) (O_law_sums : Ok P w K mg base k (He.ga K "_law_sums") p_law_sums (sp_law_sums K)) (O_law_good : Ok P w K mg base k (He.ga K "_law_good") p_law_good (sp_law_good K)) :
    Ok P w K mg base (k + 1) (He.ga K "_law_heights") p_law_heights (sp_law_heights K) := by
  obtain ⟨fd_law_sums, F_law_sums, b_law_sums, k_law_sums⟩ := O_law_sums
  obtain ⟨fd_law_good, F_law_good, b_law_good, k_law_good⟩ := O_law_good
  obtain ⟨fd, FD⟩ := T.d_law_heights
  refine ⟨fd, FunD.ok FD sc_law_heights (fun vs H Q E h => by obtain ⟨_, _, _, _, rfl, _⟩ := h; rfl) (fun cdv A outer s H vs Q E hr h => ?_), FD.bindsN fun _ _ _ _ _ _ us hl => match us, hl with | [_, _], _ => rfl, FD.kp⟩
  have nd := sc_law_heights.nd
  have hu := hu_of hr
  refine ⟨_, PSs.nox (pss_cons (ps_set (i := 2) nd rfl (Or.inl rfl) (pe_call F_law_sums hr rfl T.g_law_sums k_law_sums b_law_sums .nil pass0 (pa_cons (pv 0) pa_nil)))
      (pss_cons (ps_set (i := 3) nd rfl (Or.inl rfl) (pe_lst (pa_cons pe_int pa_nil)))
      (pss_cons (ps_for PassesOwn.never rfl (pi_range2 rfl T.f_range (pa_cons pe_int (pa_cons (pe_callB (call_lenK (K := K)) (by rfl) T.f_len (by decide +kernel) (pa_cons (pv 2) pa_nil)) pa_nil))) (pg_name (i := 4) nd rfl (Or.inl rfl))
       (pss_cons (ps_set (i := 5) nd rfl (Or.inl rfl) (pe_ix (ix_listK (K := K)) (pv 3) (pe_un un_neg pe_int) (fun _ _ => rfl)))
        (pss_cons (ps_for PassesOwn.never rfl (pi_listK (K := K) (pv 1)) (pg_name (i := 6) nd rfl (Or.inl rfl))
         (pss_cons (ps_set (i := 7) nd rfl (Or.inl rfl) (pe_op op_sub (pv 4) (pe_ix (ix_tupK (K := K)) (pv 6) pe_int (fun _ _ => rfl))))
          (pss_one (ps_if (pt_val (pe_call F_law_good hr rfl T.g_law_good k_law_good b_law_good .nil pass0 (pa_cons (pv 2) (pa_cons (pv 6) (pa_cons (pv 7) pa_nil)))))
           (pss_one (ps_set (i := 5) nd rfl (Or.inl rfl) (pe_callB (call_max2 rfl) (by rfl) T.f_max (by decide +kernel) (pa_cons (pv 5) (pa_cons (pe_op op_add (pe_ix (ix_listK (K := K)) (pv 3) (pv 7) (fun _ _ => rfl)) (pe_ix (ix_tupK (K := K)) (pv 6) pe_int (fun _ _ => rfl))) pa_nil))))) pss_nil))))
        (pss_one (ps_expr (pe_bmK (K := K) PySem.F.plainAttrs_list PySem.F.slot_list_append PySem.F.type_list_append mt_append (pv 3) (pa_cons (pv 5) pa_nil)))))))
      (pss_one (ps_ret (pv 3)))))), ?_⟩
  obtain ⟨a, b, ns, tab, rfl, hS, hTb, hl, W, q⟩ := h
  obtain ⟨ts, hB, hA⟩ := id hTb
  refine q_asgL (el_call (ea_cons (ev_var rfl) ea_nil) fun H1 e Q k E => ⟨a, ns, rfl, ex_l e hS, hl, k⟩) fun s H1 hs e1 h1 => ?_
  refine q_asgL (el_lst (ea_cons ev_c ea_nil) (by decide)) fun t H2 ht e2 h2 => ?_
  refine q_forR2 (ea_cons ev_c (ea_cons (ev_len (ev_var rfl) (sq_of (e2 _ _ h1))) ea_nil)) (by rw [List.length_map, sums_len]; omega) (fun i σ' H' => ∃ v4 v5 v6 v7, σ' = [some (.ref a), some (.ref b), some (.ref s), some (.ref t), v4, v5, v6, v7] ∧ Ex H1 H' ∧ H' t = some (.lst ((hlist ns tab i).map V.int))) ?_ ?_ ?_
  · exact fun H3 e3 => ⟨none, none, none, none, rfl, e2.trans e3, e3 _ _ h2⟩
  · rintro i σ' H3 hi ⟨v4, v5, v6, v7, rfl, e3, hq⟩
    rw [List.length_map, sums_len] at hi
    have ei : (1 : Int) + (i : Int) = ((i + 1 : Nat) : Int) := by omega
    rw [ei]
    refine q_asg (ev_op (ev_var rfl) (ev_un ev_c ru_neg) (rv_ixL (sq_of hq) (hl_last ns tab i))) fun H4 e4 => ?_
    refine q_forLn (ev_var rfl) (ex_l ((e1.trans e3).trans e4) hB) (fun j σ' H' => ∃ v6 v7, σ' = [some (.ref a), some (.ref b), some (.ref s), some (.ref t), some (.int ((i + 1 : Nat) : Int)), some (.int ((tab.take j).foldl (hturn ns (hlist ns tab i) (i + 1)) (hgt ns tab i))), v6, v7] ∧ Ex H1 H' ∧ H' t = some (.lst ((hlist ns tab i).map V.int))) ?_ ?_ ?_ ?_
    · exact fun H5 e5 => ⟨v6, v7, rfl, (e3.trans e4).trans e5, (e4.trans e5) _ _ hq⟩
    · rintro j σ' H' _ ⟨v6, v7, rfl, e5, _⟩
      exact ex_l (e1.trans e5) hB
    · rintro j x σ' H5 hj ⟨v6, v7, rfl, e5, hq5⟩
      obtain ⟨tk, htk, rfl⟩ := map_get hj
      obtain ⟨row, hrow, hT⟩ := hA.get' htk
      obtain ⟨kd, hkd, rfl⟩ := map_get hrow
      have hT5 := ex_t (e1.trans e5) hT
      have hw := W kd (List.mem_of_getElem? hkd)
      have hS5 : SqL K H5 s ((sums ns).map V.int) := sq_of (e5 _ _ h1)
      refine q_asg (ev_op (ev_var rfl) (ev_op (ev_var rfl) ev_c (rv_ixT hT5 (kind_at1 kd))) rv_I0) fun H5' e5' => ?_
      have hT5 := ex_t e5' hT5
      have hS5 := ex_l e5' hS5
      have hq5 := e5' _ _ hq5
      have e5 := e5.trans e5'
      refine s_ifAsg (b := good ns kd (i + 1)) (v := .int (hturn ns (hlist ns tab i) (i + 1) ((tab.take j).foldl (hturn ns (hlist ns tab i) (i + 1)) (hgt ns tab i)) kd)) (et_B (ev_call (ea_cons (ev_var rfl) (ea_cons (ev_var rfl) (ea_cons (ev_var rfl) ea_nil))) fun H6 e6 Q k E => ⟨s, tk, _, i + 1, ns, kd, rfl, ex_l e6 hS5, ex_t e6 hT5, by omega, rfl, k⟩)) (fun hg => ?_) (fun hg => ?_) fun H6 e6 => ?_
      · obtain ⟨g1, _, _⟩ := good_iff.mp hg
        refine ev_is (ev_max2 (ev_var rfl) (ev_op (ev_op (ev_var rfl) (ev_var rfl) (rv_ixL (sq_of hq5) (hl_at (j := i + 1 - kd.width) (by omega) (by omega)))) (ev_op (ev_var rfl) ev_c (rv_ixT hT5 (kind_at2 kd))) rv_I0)) ?_
        unfold hturn
        rw [if_pos hg, hlist_getD (by omega)]
        exact congrArg V.int (by omega)
      · unfold hturn
        rw [hg, if_neg Bool.false_ne_true]
        rfl
      · refine ⟨some (V.ref tk), some (V.int (((i + 1 : Nat) : Int) - (kd.width : Int))), ?_, e5.trans e6, e6 _ _ hq5⟩
        rw [List.take_succ_eq_append_getElem (lt_of_get hkd), List.foldl_append, (List.getElem?_eq_some_iff.mp hkd).2]
        rfl
    · rintro σ' H5 ⟨v6, v7, rfl, e5, hq5⟩
      refine s_app (xs := (hlist ns tab i).map V.int) hq5 (ev_var rfl) (ev_var rfl) (by rw [List.length_map, hlist_length]; omega) fun H6 e6 => ?_
      refine ⟨_, _, _, _, rfl, Ex.mut (e5.trans e6) ht, ?_⟩
      have el : (ts.map V.ref).length = tab.length := by rw [List.length_map, hA.length, List.length_map]
      rw [upd_same, el, List.take_length, hlist, List.map_append]
      rfl
  · rintro σ' H3 ⟨v4, v5, v6, v7, rfl, e3, hq⟩
    refine s_ret (ev_var rfl) fun H4 e4 => q t H4 (fresh_back e1 ht) ((e1.trans e3).trans e4) (e4 _ _ ?_)
    rw [hq, List.length_map, sums_len]
    have en : ((((ns.length + 1 : Nat) : Int)) - 1).toNat = ns.length := by omega
    rw [en]
end Sv
namespace Sv
open PySem PySem.Spec PyProof.Rows L2 Evl TL
theorem ok_law_back {P : Program} {w : World} {K : PySem.W.Frag} {mg : Str → Option Value} {base : Heap} {k : Nat} (T : Top K mg) (O_law_sums : Ok P w K mg base k (He.ga K "_law_sums") p_law_sums (sp_law_sums K)) (O_law_heights : Ok P w K mg base k (He.ga K "_law_heights") p_law_heights (sp_law_heights K)) (O_law_good : Ok P w K mg base k (He.ga K "_law_good") p_law_good (sp_law_good K)) :
    Ok P w K mg base (k + 1) (He.ga K "_law_back") p_law_back (sp_law_back K) := by
  obtain ⟨fd_law_sums, F_law_sums, b_law_sums, k_law_sums⟩ := O_law_sums
  obtain ⟨fd_law_heights, F_law_heights, b_law_heights, k_law_heights⟩ := O_law_heights
  obtain ⟨fd_law_good, F_law_good, b_law_good, k_law_good⟩ := O_law_good
  obtain ⟨fd, FD⟩ := T.d_law_back
  refine ⟨fd, FunD.ok FD sc_law_back (fun vs H Q E h => by obtain ⟨_, _, _, _, rfl, _⟩ := h; rfl) (fun cdv A outer s H vs Q E hr h => ?_), FD.bindsN fun _ _ _ _ _ _ us hl => match us, hl with | [_, _], _ => rfl, FD.kp⟩
  have nd := sc_law_back.nd
  have hu := hu_of hr
  refine ⟨_, PSs.nox (pss_cons (ps_set (i := 2) nd rfl (Or.inr rfl) (pe_call F_law_sums hr rfl T.g_law_sums k_law_sums b_law_sums .nil pass0 (pa_cons (pv 0) pa_nil)))
      (pss_cons (ps_set (i := 3) nd rfl (Or.inr rfl) (pe_call F_law_heights hr rfl T.g_law_heights k_law_heights b_law_heights .nil pass0 (pa_cons (pv 0) (pa_cons (pv 1) pa_nil))))
      (pss_cons (ps_set (i := 4) nd rfl (Or.inl rfl) (pe_lst (pa_cons (pe_tup (pa_cons pe_int (pa_cons pe_str pa_nil))) pa_nil)))
      (pss_cons (ps_for PassesOwn.never rfl (pi_range2 rfl T.f_range (pa_cons pe_int (pa_cons (pe_callB (call_lenK (K := K)) (by rfl) T.f_len (by decide +kernel) (pa_cons (pv 2) pa_nil)) pa_nil))) (pg_name (i := 5) nd rfl (Or.inr rfl))
       (pss_one (ps_if (pt_cmpR op_eq (pe_ix (ix_listK (K := K)) (pv 3) (pv 5) (fun _ _ => rfl)) (pe_ix (ix_listK (K := K)) (pv 3) (pe_op op_sub (pv 5) pe_int) (fun _ _ => rfl)) (nomark _))
         (pss_one (ps_expr (pe_bmK (K := K) PySem.F.plainAttrs_list PySem.F.slot_list_append PySem.F.type_list_append mt_append (pv 4) (pa_cons (pe_tup (pa_cons (pe_op op_sub (pv 5) pe_int) (pa_cons pe_str pa_nil))) pa_nil))))
         (pss_cons (ps_setLc (i := 6) (own := [("_law_kind", 7)]) (g := gName 7) rfl nd rfl rfl (sw_true rfl rfl rfl (by decide +kernel)) (pi_listK (K := K) (pv 1)) (blkOk_by (own := [("_law_kind", 7)]) (N := N_law_back) (sc := defScope s_law_back) (by decide +kernel)) (fun _ _ _ _ _ => (pg_name (i := 7) nd rfl (Or.inl rfl))) (fun _ _ _ _ _ => (pts_one (pt_val (pe_call F_law_good hr rfl T.g_law_good k_law_good b_law_good .nil pass0 (pa_cons (pv 2) (pa_cons (pv 7) (pa_cons (pe_op op_sub (pv 5) (pe_ix (ix_tupK (K := K)) (pv 7) pe_int (fun _ _ => rfl))) pa_nil))))))) (fun _ _ _ _ _ => (pv 7)))
          (pss_cons (ps_setLc (i := 6) (own := [("_law_kind", 7)]) (g := gName 7) rfl nd rfl rfl (sw_true rfl rfl rfl (by decide +kernel)) (pi_listK (K := K) (pv 6)) (blkOk_by (own := [("_law_kind", 7)]) (N := N_law_back) (sc := defScope s_law_back) (by decide +kernel)) (fun _ _ _ _ _ => (pg_name (i := 7) nd rfl (Or.inl rfl))) (fun _ _ _ _ _ => (pts_one (pt_cmpR op_eq (pe_op op_add (pe_ix (ix_listK (K := K)) (pv 3) (pe_op op_sub (pv 5) (pe_ix (ix_tupK (K := K)) (pv 7) pe_int (fun _ _ => rfl))) (fun _ _ => rfl)) (pe_ix (ix_tupK (K := K)) (pv 7) pe_int (fun _ _ => rfl))) (pe_ix (ix_listK (K := K)) (pv 3) (pv 5) (fun _ _ => rfl)) (nomark _)))) (fun _ _ _ _ _ => (pv 7)))
          (pss_one (ps_expr (pe_bmK (K := K) PySem.F.plainAttrs_list PySem.F.slot_list_append PySem.F.type_list_append mt_append (pv 4) (pa_cons (pe_tup (pa_cons (pe_op op_sub (pv 5) (pe_ix (ix_tupK (K := K)) (pe_ix (ix_listK (K := K)) (pv 6) pe_int (fun _ _ => rfl)) pe_int (fun _ _ => rfl))) (pa_cons (pe_ix (ix_tupK (K := K)) (pe_ix (ix_listK (K := K)) (pv 6) pe_int (fun _ _ => rfl)) pe_int (fun _ _ => rfl)) pa_nil))) pa_nil)))))))))
      (pss_one (ps_ret (pv 4))))))), ?_⟩
  obtain ⟨a, b, ns, tab, rfl, hS, hTb, hl, hlt, W, q⟩ := h
  refine q_asgL (el_call (ea_cons (ev_var rfl) ea_nil) fun H1 e Q k E => ⟨a, ns, rfl, ex_l e hS, hl, k⟩) fun s H1 hs e1 h1 => ?_
  refine q_asgL (el_call (ea_cons (ev_var rfl) (ea_cons (ev_var rfl) ea_nil)) fun H2 e Q k E => ⟨a, b, ns, tab, rfl, ex_l (e1.trans e) hS, hTb.mono (e1.trans e), hl, W, k⟩) fun g H2 hg e2 h2 => ?_
  have e12 := e1.trans e2
  refine q_asgG (eg_lst1 (K := K) (row := pieV (0, Str.empty)) (eu_tup (ea_cons ev_c (ea_cons ev_c ea_nil)) (by decide))) fun vt H3 e3 pt => ?_
  obtain ⟨t, rfl, ht, hR0⟩ := pt
  refine q_forR2 (ea_cons ev_c (ea_cons (ev_len (ev_var rfl) (sq_of ((e2.trans e3) _ _ h1))) ea_nil)) (by rw [List.length_map, sums_len]; omega) (fun i σ' H' => ∃ v5 v6 v7, σ' = [some (.ref a), some (.ref b), some (.ref s), some (.ref g), some (.ref t), v5, v6, v7] ∧ Ex H2 H' ∧ RowsN K H' t (((List.range (i + 1)).map (backR ns tab)).map pieV)) ?_ ?_ ?_
  · refine fun H4 e4 => ⟨none, none, none, rfl, e3.trans e4, ?_⟩
    have e0 : backR ns tab 0 = (0, Str.empty) := rfl
    have e9 : ((List.range (0 + 1)).map (backR ns tab)).map pieV = [pieV (0, Str.empty)] := by
      rw [← e0]
      rfl
    rw [e9]
    exact hR0.mono e4
  · rintro i σ' H4 hi ⟨v5, v6, v7, rfl, e4, hq⟩
    rw [List.length_map, sums_len] at hi
    have ei : (1 : Int) + (i : Int) = ((i + 1 : Nat) : Int) := by omega
    rw [ei]
    have hH4 : SqL K H4 g ((hlist ns tab ns.length).map V.int) := sq_of (e4 _ _ h2)
    have hS4 : SqL K H4 s ((sums ns).map V.int) := sq_of ((e2.trans e4) _ _ h1)
    have hT4 := hTb.mono (e12.trans e4)
    have em : ((i + 1 : Nat) : Int) - 1 = (i : Int) := by omega
    have eb : ((List.range (i + 1 + 1)).map (backR ns tab)).map pieV = ((List.range (i + 1)).map (backR ns tab)).map pieV ++ [pieV (backR ns tab (i + 1))] := by
      rw [List.range_succ (n := i + 1), List.map_append, List.map_append]
      rfl
    refine s_if (b := decide (V.int (hgt ns tab (i + 1)) = V.int (hgt ns tab i))) (et_test (ev_op (ev_op (ev_var rfl) (ev_var rfl) (rv_ixL hH4 (hl_at rfl (by omega)))) (ev_op (ev_var rfl) (ev_op (ev_var rfl) ev_c rv_I0) (rv_ixL hH4 (hl_at em (by omega)))) (rv_eq rfl))) (fun hb H5 e5 => ?_) (fun hb H5 e5 => ?_)
    · have hh : hgt ns tab (i + 1) = hgt ns tab i := V.int.inj (of_decide_eq_true hb)
      have er : backR ns tab (i + 1) = (i, Str.empty) := by
        unfold backR
        rw [bk_same hh]
        rfl
      refine s_appR (row := pieV (backR ns tab (i + 1))) (hq.mono e5) (ev_var rfl) ?_ (by simp; omega) fun H6 e6 hq6 => ?_
      · rw [er]
        exact eu_tup (ea_cons (ev_is (ev_op (ev_var rfl) ev_c rv_I0) (congrArg V.int em)) (ea_cons ev_c ea_nil)) (by show 2 ≤ 100000; decide)
      · exact ⟨_, _, _, rfl, (e6.ex (e4.trans e5) ht), by rw [eb]; exact hq6⟩
    · have hh : hgt ns tab (i + 1) ≠ hgt ns tab i := fun e => of_decide_eq_false hb (by rw [e])
      obtain ⟨kd, hk, hm, hgd, _⟩ := lastK_some W hh
      obtain ⟨g1, _, _⟩ := good_iff.mp hgd
      have er : backR ns tab (i + 1) = (i + 1 - kd.width, kd.name) := by
        unfold backR
        rw [bk_kind hh hk]
        rfl
      -- the kinds that fit
      refine q_asgG (eg_keep (K := K) (rf := kindV) (bs := tab) (fun kd => good ns kd (i + 1)) (ev_var rfl) (hT4.mono e5) (by omega) (fun _ => rfl) (fun _ => rfl) (fun kc tk H6 e6 hm6 hT6 => ?_)) fun v H6 e6 p6 => ?_
      · refine et_B (ev_call (ea_cons (ev_var rfl) (ea_cons (ev_var rfl) (ea_cons (ev_op (ev_var rfl) (ev_op (ev_var rfl) ev_c (rv_ixT hT6 (kind_at1 kc))) rv_I0) ea_nil))) fun H7 e7 Q k E => ?_)
        exact ⟨s, tk, _, i + 1, ns, kc, rfl, ex_l ((e5.trans e6).trans e7) hS4, ex_t e7 hT6, by omega, rfl, k⟩
      · obtain ⟨w1, rfl, hw1, hR1⟩ := p6
        refine q_asgG (eg_keep (K := K) (rf := kindV) (bs := tab.filter fun kd => good ns kd (i + 1)) (fun kc => decide (V.int (hgt ns tab (i + 1 - kc.width) + kc.worth) = V.int (hgt ns tab (i + 1)))) (ev_var rfl) hR1.l (Nat.le_trans (List.length_filter_le _ _) (by omega)) (fun _ => rfl) (fun _ => rfl) (fun kc tk H7 e7 hm7 hT7 => ?_)) fun v H7 e7 p7 => ?_
        · have hgc := (List.mem_filter.mp hm7).2
          obtain ⟨c1, _, _⟩ := good_iff.mp hgc
          have hH7 := ex_l ((e5.trans e6).trans e7) hH4
          exact et_test (ev_op (ev_op (ev_op (ev_var rfl) (ev_op (ev_var rfl) (ev_op (ev_var rfl) ev_c (rv_ixT hT7 (kind_at1 kc))) rv_I0) (rv_ixL hH7 (hl_at (j := i + 1 - kc.width) (by omega) (by omega)))) (ev_op (ev_var rfl) ev_c (rv_ixT hT7 (kind_at2 kc))) rv_I0) (ev_op (ev_var rfl) (ev_var rfl) (rv_ixL hH7 (hl_at rfl (by omega)))) (rv_eq rfl))
        · obtain ⟨w2, rfl, hw2, ts2, hR2, hA2⟩ := p7
          have ef : (tab.filter fun kd => good ns kd (i + 1)).filter (fun kc => decide (V.int (hgt ns tab (i + 1 - kc.width) + kc.worth) = V.int (hgt ns tab (i + 1)))) = tab.filter (lastP ns tab (i + 1)) := by
            rw [List.filter_filter]
            refine List.filter_congr fun kc _ => ?_
            unfold lastP
            rw [Bool.and_comm]
            congr 1
            exact decide_eq_decide.mpr ⟨fun z => V.int.inj z, fun z => by rw [z]⟩
          rw [ef] at hA2
          have h0 : (tab.filter (lastP ns tab (i + 1)))[0]? = some kd := by
            rw [← List.head?_eq_getElem?, List.head?_filter]
            exact hk
          obtain ⟨tk, htk, hTk⟩ := hA2.get (i := 0) (get_map h0)
          have e47 := (e4.trans e5).trans (e6.trans e7)
          refine s_appR (row := pieV (backR ns tab (i + 1))) (hq.mono (e5.trans (e6.trans e7))) (ev_var rfl) ?_ (by simp; omega) fun H8 e8 hq8 => ?_
          · rw [er]
            refine eu_tup (ea_cons (ev_is (ev_op (ev_var rfl) (ev_op (ev_op (ev_var rfl) ev_c (rv_ixL (sq_of hR2) (at_int (j := 0) rfl htk))) ev_c (rv_ixT hTk (kind_at1 kd))) rv_I0) (congrArg V.int (by show ((i + 1 : Nat) : Int) - (kd.width : Int) = ((i + 1 - kd.width : Nat) : Int); omega)))
              (ea_cons (ev_op (ev_op (ev_var rfl) ev_c (rv_ixL (sq_of hR2) (at_int (j := 0) rfl htk))) ev_c (rv_ixT hTk (kind_at0 kd))) ea_nil)) (by show 2 ≤ 100000; decide)
          · exact ⟨_, _, _, rfl, (e8.ex e47 ht), by rw [eb]; exact hq8⟩
  · rintro σ' H4 ⟨v5, v6, v7, rfl, e4, hq⟩
    refine s_ret (ev_var rfl) fun H5 e5 => q _ H5 (e12.trans (e4.trans e5)) ⟨t, rfl, fresh_back e12 ht, ?_⟩
    have en : ((((sums ns).map V.int).length : Int) - 1).toNat = ns.length := by
      rw [List.length_map, sums_len]
      omega
    rw [en] at hq
    exact hq.mono e5
end Sv
namespace Sv
open PySem PySem.Spec PyProof.Rows L2 Evl TL
theorem inV_nVs (x : Nat) (l : List Nat) : inV (.int (x : Int)) (nVs l) = decide (x ∈ l) := by
  unfold inV nVs
  induction l with
  | nil => rfl
  | cons y l ih =>
    rw [List.map_cons, List.any_cons, ih]
    by_cases h : y = x
    · subst h
      simp [eqV]
    · have h1 : eqV (V.int (y : Int)) (V.int (x : Int)) = false := by
        show ((y : Int) == (x : Int)) = false
        rw [beq_eq_false_iff_ne]
        omega
      rw [h1, Bool.false_or]
      exact decide_eq_decide.mpr ⟨fun q => List.mem_cons_of_mem _ q, fun q => by
        rcases List.mem_cons.mp q with q | q
        · exact absurd q.symm h
        · exact q⟩
theorem opens_succ {ns : List Int} {tab : List Kd} (i : Nat) : opens ns tab (i + 1) = opens ns tab i ++ (if tab.any (isOpen ns tab i) = true then [i] else []) := by
  unfold opens
  rw [List.range_succ, List.filter_append, List.filter_cons]
  rfl
theorem opens_lt {ns : List Int} {tab : List Kd} {i j : Nat} (h : j ∈ opens ns tab i) : j < i := by
  have h1 := (List.mem_filter.mp h).1
  exact List.mem_range.mp h1
theorem opens_len {ns : List Int} {tab : List Kd} (i : Nat) : (opens ns tab i).length ≤ i := by
  have h := List.length_filter_le (fun i => tab.any (isOpen ns tab i)) (List.range i)
  rw [List.length_range] at h
  exact h
theorem ok_law_starts {P : Program} {w : World} {K : PySem.W.Frag} {mg : Str → Option Value} {base : Heap} {k : Nat} (T : Top K mg) (O_law_sums : Ok P w K mg base k (He.ga K "_law_sums") p_law_sums (sp_law_sums K)) (O_law_heights : Ok P w K mg base k (He.ga K "_law_heights") p_law_heights (sp_law_heights K)) :
    Ok P w K mg base (k + 1) (He.ga K "_law_starts") p_law_starts (sp_law_starts K) := by
  obtain ⟨fd_law_sums, F_law_sums, b_law_sums, k_law_sums⟩ := O_law_sums
  obtain ⟨fd_law_heights, F_law_heights, b_law_heights, k_law_heights⟩ := O_law_heights
  obtain ⟨fd, FD⟩ := T.d_law_starts
  refine ⟨fd, FunD.ok FD sc_law_starts (fun vs H Q E h => by obtain ⟨_, _, _, _, rfl, _⟩ := h; rfl) (fun cdv A outer s H vs Q E hr h => ?_), FD.bindsN fun _ _ _ _ _ _ us hl => match us, hl with | [_, _], _ => rfl, FD.kp⟩
  have nd := sc_law_starts.nd
  have hu := hu_of hr
  refine ⟨_, PSs.nox (pss_cons (ps_set (i := 2) nd rfl (Or.inl rfl) (pe_call F_law_sums hr rfl T.g_law_sums k_law_sums b_law_sums .nil pass0 (pa_cons (pv 0) pa_nil)))
      (pss_cons (ps_set (i := 3) nd rfl (Or.inl rfl) (pe_call F_law_heights hr rfl T.g_law_heights k_law_heights b_law_heights .nil pass0 (pa_cons (pv 0) (pa_cons (pv 1) pa_nil))))
      (pss_cons (ps_set (i := 4) nd rfl (Or.inl rfl) (pe_callB (call_lenK (K := K)) (by rfl) T.f_len (by decide +kernel) (pa_cons (pv 0) pa_nil)))
      (pss_cons (ps_set (i := 5) nd rfl (Or.inl rfl) (pe_lst pa_nil))
      (pss_cons (ps_for PassesOwn.never rfl (pi_range1 rfl T.f_range (pa_cons (pv 4) pa_nil)) (pg_name (i := 6) nd rfl (Or.inl rfl))
       (pss_one (ps_for PassesOwn.never rfl (pi_listK (K := K) (pv 1)) (pg_name (i := 7) nd rfl (Or.inl rfl))
         (pss_cons (ps_set (i := 8) nd rfl (Or.inl rfl) (pe_and (pe_cmpR op_gt (pe_op op_add (pv 6) (pe_ix (ix_tupK (K := K)) (pv 7) pe_int (fun _ _ => rfl))) (pv 4) (nomark _)) (pe_one (pe_cmpR op_le (pe_op op_sub (pe_ix (ix_listK (K := K)) (pv 2) (pv 4) (fun _ _ => rfl)) (pe_ix (ix_listK (K := K)) (pv 2) (pv 6) (fun _ _ => rfl))) (pe_ix (ix_tupK (K := K)) (pv 7) pe_int (fun _ _ => rfl)) (nomark _)))))
          (pss_one (ps_if (PW.pt (pw_and (pt_val (pv 8)) (pw_and (pt_cmpR op_gt (pe_op op_add (pe_ix (ix_listK (K := K)) (pv 3) (pv 6) (fun _ _ => rfl)) (pe_ix (ix_tupK (K := K)) (pv 7) pe_int (fun _ _ => rfl))) (pe_ix (ix_listK (K := K)) (pv 3) (pv 4) (fun _ _ => rfl)) (nomark _)) (pw_and1 (pt_cmpR (op_notIn_seqK (K := K)) (pv 6) (pv 5) rfl)))))
           (pss_one (ps_expr (pe_bmK (K := K) PySem.F.plainAttrs_list PySem.F.slot_list_append PySem.F.type_list_append mt_append (pv 5) (pa_cons (pv 6) pa_nil)))) pss_nil))))))
      (pss_one (ps_ret (pe_op op_cat (pv 5) (pe_lst (pa_cons (pv 4) pa_nil)))))))))), ?_⟩
  obtain ⟨a, b, ns, tab, rfl, hS, hTb, hl, W, q⟩ := h
  obtain ⟨ts, hB, hA0⟩ := id hTb
  have hA := hA0.of_map
  refine q_asgL (el_call (ea_cons (ev_var rfl) ea_nil) fun H1 e Q k E => ⟨a, ns, rfl, ex_l e hS, hl, k⟩) fun s H1 hs e1 h1 => ?_
  refine q_asgL (el_call (ea_cons (ev_var rfl) (ea_cons (ev_var rfl) ea_nil)) fun H2 e Q k E => ⟨a, b, ns, tab, rfl, ex_l (e1.trans e) hS, hTb.mono (e1.trans e), hl, W, k⟩) fun g H2 hg e2 h2 => ?_
  have e12 := e1.trans e2
  refine q_asg (v := .int (ns.length : Int)) (ev_is (ev_len (ev_var rfl) (ex_l e12 hS)) (by rw [List.length_map])) fun H3 e3 => ?_
  refine q_asgL (el_lst ea_nil (by decide)) fun t H4 ht e4 h4 => ?_
  have ht2 := fresh_back e3 ht
  refine q_forR1 (ea_cons (ev_var rfl) ea_nil) (by omega) (fun i σ' H' => ∃ v6 v7 v8, σ' = [some (.ref a), some (.ref b), some (.ref s), some (.ref g), some (.int (ns.length : Int)), some (.ref t), v6, v7, v8] ∧ Ex H2 H' ∧ H' t = some (.lst (nVs (opens ns tab i)))) ?_ ?_ ?_
  · exact fun H5 e5 => ⟨none, none, none, rfl, e3.trans (e4.trans e5), e5 _ _ h4⟩
  · rintro i σ' H5 hi ⟨v6, v7, v8, rfl, e5, hq⟩
    have hi' : i < ns.length := by omega
    refine s_forLn (ev_var rfl) (ex_l (e12.trans e5) hB) (fun j σ' H' => ∃ v7 v8, σ' = [some (.ref a), some (.ref b), some (.ref s), some (.ref g), some (.int (ns.length : Int)), some (.ref t), some (.int (i : Int)), v7, v8] ∧ Ex H2 H' ∧ H' t = some (.lst (nVs (opens ns tab i ++ (if (tab.take j).any (isOpen ns tab i) = true then [i] else []))))) ?_ ?_ ?_ ?_
    · exact fun H6 e6 => ⟨_, _, rfl, e5.trans e6, by simpa using e6 _ _ hq⟩
    · rintro j σ' H' _ ⟨v7, v8, rfl, e6, _⟩
      exact ex_l (e12.trans e6) hB
    · rintro j x σ' H6 hj ⟨v7, v8, rfl, e6, hq6⟩
      obtain ⟨tk, htk, rfl⟩ := map_get hj
      obtain ⟨kd, hkd, hT⟩ := hA.get' htk
      have hT6 := ex_t (e12.trans e6) hT
      have hS6 : SqL K H6 s ((sums ns).map V.int) := sq_of ((e2.trans e6) _ _ h1)
      have hH6 : SqL K H6 g ((hlist ns tab ns.length).map V.int) := sq_of (e6 _ _ h2)
      have etk : tab.take (j + 1) = tab.take j ++ [kd] := by
        rw [List.take_succ_eq_append_getElem (lt_of_get hkd), (List.getElem?_eq_some_iff.mp hkd).2]
      refine q_asg (v := .bl (decide ((ns.length : Int) < (i : Int) + (kd.width : Int)) && decide (sm ns ns.length - sm ns i ≤ kd.allowed))) (ev_andV (ev_op (ev_op (ev_var rfl) (ev_op (ev_var rfl) ev_c (rv_ixT hT6 (kind_at1 kd))) rv_I0) (ev_var rfl) rv_I0) fun _ => ev_op (ev_op (ev_op (ev_var rfl) (ev_var rfl) (rv_ixL hS6 (sums_at rfl (Nat.le_refl _)))) (ev_op (ev_var rfl) (ev_var rfl) (rv_ixL hS6 (sums_at rfl (by omega)))) rv_I0) (ev_op (ev_var rfl) ev_c (rv_ixT hT6 (kind_at3 kd))) rv_I0) fun H7 e7 => ?_
      refine s_when (b := (decide ((ns.length : Int) < (i : Int) + (kd.width : Int)) && decide (sm ns ns.length - sm ns i ≤ kd.allowed)) && (decide (hgt ns tab ns.length < hgt ns tab i + kd.worth) && !decide (i ∈ opens ns tab i ++ (if (tab.take j).any (isOpen ns tab i) = true then [i] else [])))) ?_ (fun hb H8 e8 => ?_) (fun hb H8 e8 => ?_)
      · refine et_and (et_B (ev_var rfl)) fun _ => et_and (et_test (ev_op (ev_op (ev_op (ev_var rfl) (ev_var rfl) (rv_ixL (ex_l e7 hH6) (hl_at rfl (by omega)))) (ev_op (ev_var rfl) ev_c (rv_ixT (ex_t e7 hT6) (kind_at2 kd))) rv_I0) (ev_op (ev_var rfl) (ev_var rfl) (rv_ixL (ex_l e7 hH6) (hl_at rfl (Nat.le_refl _)))) rv_I0)) fun _ => ?_
        rw [← inV_nVs]
        exact et_test (ev_op (ev_var rfl) (ev_var rfl) (rv_niL (sq_of (e7 _ _ hq6)) rfl (by simp [nVs, flatV])))
      · -- one more
        simp only [Bool.and_eq_true, decide_eq_true_eq, Bool.not_eq_true', decide_eq_false_iff_not] at hb
        obtain ⟨⟨b1, b2⟩, b3, b4⟩ := hb
        have hop : isOpen ns tab i kd = true := isOpen_iff.mpr ⟨by omega, b3, b2⟩
        have hno : (tab.take j).any (isOpen ns tab i) = false := by
          cases q9 : (tab.take j).any (isOpen ns tab i) with
          | false => rfl
          | true =>
            rw [q9, if_pos rfl] at b4
            exact absurd (List.mem_append_right _ (List.mem_singleton.mpr rfl)) b4
        refine s_appV (e8 _ _ (e7 _ _ hq6)) (ev_var rfl) (ev_var rfl) ?_ fun H9 e9 h9 => ?_
        · have := opens_len (ns := ns) (tab := tab) i
          rw [hno]
          simp [nVs]
          omega
        · refine ⟨_, _, rfl, e9.ex (e6.trans (e7.trans e8)) ht2, ?_⟩
          rw [h9, etk, List.any_append, hno]
          simp [hop, nVs]
      · have hgo : (if (tab.take (j + 1)).any (isOpen ns tab i) = true then [i] else []) = (if (tab.take j).any (isOpen ns tab i) = true then [i] else []) := by
          rw [etk, List.any_append]
          cases q9 : (tab.take j).any (isOpen ns tab i) with
          | true => rfl
          | false =>
            have hc : isOpen ns tab i kd = false := by
              cases q8 : isOpen ns tab i kd with
              | false => rfl
              | true =>
                obtain ⟨o1, o2, o3⟩ := isOpen_iff.mp q8
                have o1' : (ns.length : Int) < (i : Int) + (kd.width : Int) := by omega
                have o4 : ¬ i ∈ opens ns tab i ++ (if (tab.take j).any (isOpen ns tab i) = true then [i] else []) := by
                  rw [q9]
                  intro hm
                  simp at hm
                  have := opens_lt hm
                  omega
                rw [decide_eq_true o1', decide_eq_true o2, decide_eq_true o3, decide_eq_false o4] at hb
                cases hb
            simp [hc]
        refine ⟨_, _, rfl, e6.trans (e7.trans e8), ?_⟩
        rw [hgo]
        exact e8 _ _ (e7 _ _ hq6)
    · rintro σ' H6 ⟨v7, v8, rfl, e6, hq6⟩
      refine ⟨_, _, _, rfl, e6, ?_⟩
      have el : (ts.map V.ref).length = tab.length := by rw [List.length_map, hA.length]
      rw [el, List.take_length, ← opens_succ] at hq6
      exact hq6
  · rintro σ' H5 ⟨v6, v7, v8, rfl, e5, hq⟩
    have en : ((ns.length : Int)).toNat = ns.length := by omega
    rw [en] at hq
    refine s_retL (el_catN (ys := [.int (ns.length : Int)]) (ev_var rfl) (el_lst (ea_cons (ev_var rfl) ea_nil) (by simp)) hq ?_) fun p H6 hp e6 h6 => q p H6 (fresh_back (e12.trans e5) hp) ((e12.trans e5).trans e6) ?_
    · have := opens_len (ns := ns) (tab := tab) ns.length
      simp [nVs]
      omega
    · rw [h6]
      simp [nVs, starts]
end Sv
namespace Sv
open PySem PySem.Spec PyProof.Rows L2 Evl TL
theorem ok_law_stops {P : Program} {w : World} {K : PySem.W.Frag} {mg : Str → Option Value} {base : Heap} {k : Nat} (T : Top K mg)  :
    Ok P w K mg base (k + 1) (He.ga K "_law_stops") p_law_stops (sp_law_stops K) := by
  obtain ⟨fd, FD⟩ := T.d_law_stops
  refine ⟨fd, FunD.ok FD sc_law_stops (fun vs H Q E h => by obtain ⟨_, _, _, _, rfl, _⟩ := h; rfl) (fun cdv A outer s H vs Q E hr h => ?_), FD.bindsN fun _ _ _ _ _ _ us hl => match us, hl with | [_, _], _ => rfl, FD.kp⟩
  have nd := sc_law_stops.nd
  have hu := hu_of hr
  refine ⟨_, PSs.nox (pss_cons (ps_set (i := 2) nd rfl (Or.inl rfl) (pe_lst (pa_cons (pv 1) pa_nil)))
      (pss_cons (ps_while PassesOwn.never (pt_cmpR op_gt (pv 1) pe_int (nomark _))
       (pss_cons (ps_set (i := 1) nd rfl (Or.inl rfl) (pe_ix (ix_tupK (K := K)) (pe_ix (ix_listK (K := K)) (pv 0) (pv 1) (fun _ _ => rfl)) pe_int (fun _ _ => rfl)))
        (pss_one (ps_expr (pe_bmK (K := K) PySem.F.plainAttrs_list PySem.F.slot_list_append PySem.F.type_list_append mt_append (pv 2) (pa_cons (pv 1) pa_nil))))))
      (pss_one (ps_ret (pv 2))))), ?_⟩
  obtain ⟨a, e, ns, tab, rfl, hB, hl, W, he, q⟩ := h
  refine q_asgL (el_lst (ea_cons (ev_var rfl) ea_nil) (by simp)) fun p H1 hp e1 h1 => ?_
  refine q_while (fun m σ' H' => ∃ (e' : Nat) (acc : List Nat), σ' = [some (.ref a), some (.int (e' : Int)), some (.ref p)] ∧ Ex H H' ∧ e' ≤ e ∧ stops (back ns tab) e = acc ++ stops (back ns tab) e' ∧
      H' p = some (.lst (nVs (acc ++ [e']))) ∧ acc.length + e' ≤ e ∧ m = e') e ⟨e, [], rfl, e1, Nat.le_refl _, by simp, h1, by simp, rfl⟩ ?_
  rintro m σ' H2 ⟨e', acc, rfl, e2, he', hst, hP, hal, hm⟩
  refine ⟨_, et_test (ev_op (ev_var rfl) ev_c rv_I0), fun hpos H3 e3 => ?_, fun hz H3 e3 => ?_⟩
  · have hpos' : 0 < e' := by
      have := of_decide_eq_true hpos
      omega
    have hbl := back_lt (roll := ns) W e' hpos'
    have hsp := stops_pos (back_lt (roll := ns) W) hpos'
    obtain ⟨ts, hL, hA⟩ := hB.mono (e2.trans e3)
    obtain ⟨tk, htk, hT⟩ := hA.get (i := e') (get_map (backRs_get (by omega)))
    refine ⟨fun σ2 H' => ∃ (e' : Nat) (acc : List Nat), σ2 = [some (.ref a), some (.int (e' : Int)), some (.ref p)] ∧ Ex H H' ∧ e' < m ∧ stops (back ns tab) e = acc ++ stops (back ns tab) e' ∧
      H' p = some (.lst (nVs (acc ++ [e']))) ∧ acc.length + e' ≤ e, ?_, ?_⟩
    · rintro σ2 H7 ⟨e2', acc', h1, h2, h3, h4, h5, h6⟩
      exact ⟨e2', h3, e2', acc', h1, h2, by omega, h4, h5, h6, rfl⟩
    · refine q_asg (v := .int ((back ns tab e' : Nat) : Int)) (ev_op (ev_op (ev_var rfl) (ev_var rfl) (rv_ixL hL (at_int rfl htk))) ev_c (rv_ixT hT (pie_at0 _))) fun H4 e4 => ?_
      refine s_appV (e4 _ _ (e3 _ _ hP)) (ev_var rfl) (ev_var rfl) (by simp [nVs]; omega) fun H5 e5 h5 => ?_
      refine ⟨back ns tab e', acc ++ [e'], rfl, e5.ex ((e2.trans e3).trans e4) hp, by omega, ?_, ?_, by simp; omega⟩
      · rw [hst, hsp]
        simp
      · rw [h5]
        simp [nVs]
  · have hz' : e' = 0 := by
      have := of_decide_eq_false hz
      omega
    subst hz'
    rw [stops_zero] at hst
    refine s_ret (ev_var rfl) fun H4 e4 => q p H4 hp ((e2.trans e3).trans e4) ((e3.trans e4) _ _ ?_)
    rw [hP, hst]
end Sv
namespace Sv
open PySem PySem.Spec PyProof.Rows L2 Evl TL
theorem take_snoc {α : Type} {l : List α} {i : Nat} {x : α} (h : l[i]? = some x) : l.take (i + 1) = l.take i ++ [x] := by
  obtain ⟨h1, h2⟩ := List.getElem?_eq_some_iff.mp h
  rw [List.take_succ_eq_append_getElem h1, h2]
theorem len_flat {α β : Type} {f : α → List β} {n : Nat} : ∀ {l : List α}, (∀ x ∈ l, (f x).length ≤ n) → (l.flatMap f).length ≤ l.length * n
  | [], _ => by simp
  | x :: l, h => by
    rw [List.flatMap_cons, List.length_append, List.length_cons]
    have h1 := h x List.mem_cons_self
    have h2 := len_flat (l := l) fun y hy => h y (List.mem_cons_of_mem _ hy)
    have h3 : (l.length + 1) * n = l.length * n + n := Nat.succ_mul _ _
    omega
theorem stops_len {b : Nat → Nat} (hb : ∀ e, 0 < e → b e < e) (e : Nat) : (stops b e).length ≤ e + 1 := by
  induction e using Nat.strongRecOn with
  | ind e ih =>
    by_cases h0 : 0 < e
    · rw [stops_pos hb h0, List.length_cons]
      have h1 := ih _ (hb e h0)
      have h2 := hb e h0
      omega
    · have : e = 0 := by omega
      subst this
      rw [stops_zero]
      simp
theorem ok_law_settled {P : Program} {w : World} {K : PySem.W.Frag} {mg : Str → Option Value} {base : Heap} {k : Nat} (T : Top K mg) (O_law_stops : Ok P w K mg base k (He.ga K "_law_stops") p_law_stops (sp_law_stops K)) :
    Ok P w K mg base (k + 1) (He.ga K "_law_settled") p_law_settled (sp_law_settled K) := by
  obtain ⟨fd_law_stops, F_law_stops, b_law_stops, k_law_stops⟩ := O_law_stops
  obtain ⟨fd, FD⟩ := T.d_law_settled
  refine ⟨fd, FunD.ok FD sc_law_settled (fun vs H Q E h => by obtain ⟨_, _, _, _, rfl, _⟩ := h; rfl) (fun cdv A outer s H vs Q E hr h => ?_), FD.bindsN fun _ _ _ _ _ _ us hl => match us, hl with | [_, _], _ => rfl, FD.kp⟩
  have nd := sc_law_settled.nd
  have hu := hu_of hr
  refine ⟨_, PSs.nox (pss_cons (ps_set (i := 2) nd rfl (Or.inr rfl) pe_dnewK)
      (pss_cons (ps_for PassesOwn.never rfl (pi_listK (K := K) (pv 1)) (pg_name (i := 3) nd rfl (Or.inl rfl))
       (pss_one (ps_for PassesOwn.never rfl (pi_listK (K := K) (pe_call F_law_stops hr rfl T.g_law_stops k_law_stops b_law_stops .nil pass0 (pa_cons (pv 0) (pa_cons (pv 3) pa_nil)))) (pg_name (i := 4) nd rfl (Or.inl rfl))
         (pss_one (ps_dput hu (pv 2) (pv 4) (pe_op op_add (pe_dget2 hu (pv 2) (pv 4) pe_int ⟨rfl, rfl, rfl, rfl⟩) pe_int) rfl)))))
      (pss_one (ps_ret (pe_callB (cr_maxK (K := K) rfl) (by rfl) T.f_max (by decide +kernel) (pa_cons (pe_lock (pe_lc (own := [("_law_stop", 4)]) (g := gName 4) rfl nd (pi_keys (pv 2)) (blkOk_by (own := [("_law_stop", 4)]) (N := N_law_settled) (sc := defScope s_law_settled) (by decide +kernel)) (fun _ _ _ _ _ => (pg_name (i := 4) nd rfl (Or.inl rfl))) (fun _ _ _ _ _ => (pts_one (pt_cmpR op_eq (pe_dget hu (pv 2) (pv 4) (fun _ _ => rfl)) (pe_callB (call_lenK (K := K)) (by rfl) T.f_len (by decide +kernel) (pa_cons (pv 1) pa_nil)) (nomark _)))) (fun _ _ _ _ _ => (pv 4)))) pa_nil)))))), ?_⟩
  obtain ⟨a, st, ns, tab, rfl, hB, hSt, hl, W, q⟩ := h
  have hbl := back_lt (roll := ns) W
  have hstl : (starts ns tab).length ≤ 201 := by
    unfold starts opens
    have h1 := List.length_filter_le (fun i => tab.any (isOpen ns tab i)) (List.range ns.length)
    rw [List.length_range] at h1
    simp
    omega
  have hsle : ∀ x ∈ starts ns tab, x ≤ ns.length := fun x hx => by
    rcases mem_starts.mp hx with h1 | h1 <;> omega
  have hfl : ∀ x ∈ starts ns tab, (stops (back ns tab) x).length ≤ 201 := fun x hx => by
    have h1 := stops_len hbl x
    have h2 := hsle x hx
    omega
  refine q_dnew fun d H1 hd e1 h1 => ?_
  refine q_forLn (ev_var rfl) (ex_l e1 hSt) (fun i σ' H' => ∃ v3 v4 kvs, σ' = [some (.ref a), some (.ref st), some (.ref d), v3, v4] ∧ Ex H H' ∧ H' d = some (.dK kvs) ∧ Held kvs (((starts ns tab).take i).flatMap (stops (back ns tab)))) ?_ ?_ ?_ ?_
  · exact fun H2 e2 => ⟨none, none, [], rfl, e1.trans e2, e2 _ _ h1, Held.nil⟩
  · rintro i σ' H' _ ⟨v3, v4, kvs, rfl, e2, _⟩
    exact ex_l e2 hSt
  · rintro i x σ' H2 hi ⟨v3, v4, kvs, rfl, e2, h2, hh⟩
    obtain ⟨x, hx, rfl⟩ := map_get hi
    have hxm := List.mem_of_getElem? hx
    have hxl := hsle x hxm
    refine s_forNL (g := gName 4) (el_call (ea_cons (ev_var rfl) (ea_cons (ev_var rfl) ea_nil)) fun H3 e3 Q k E => ⟨a, x, ns, tab, rfl, hB.mono (e2.trans e3), hl, W, hxl, k⟩) (fun p j σ' H' => ∃ v4 kvs, σ' = [some (.ref a), some (.ref st), some (.ref d), some (.int (x : Int)), v4] ∧ Ex H H' ∧ H' d = some (.dK kvs) ∧ H' p = some (.lst (nVs (stops (back ns tab) x))) ∧ p ≠ d ∧
      Held kvs (((starts ns tab).take i).flatMap (stops (back ns tab)) ++ (stops (back ns tab) x).take j)) ?_ ?_ ?_ ?_
    · refine fun p H3 hp e3 h3 => ⟨v4, kvs, rfl, e2.trans e3, e3 _ _ h2, h3, (ne_of_none h2 hp).symm, ?_⟩
      simpa using hh
    · rintro p j σ' H3 _ ⟨v4, kvs, rfl, e3, h3, hp3, npd, hh3⟩
      exact sq_of hp3
    · rintro p j y σ' H3 hj ⟨v4, kvs, rfl, e3, h3, hp3, npd, hh3⟩
      obtain ⟨y, hy, rfl⟩ := map_get hj
      have hlen := hh3.len
      have hall : (((starts ns tab).take i).flatMap (stops (back ns tab)) ++ (stops (back ns tab) x).take j).length ≤ 50000 := by
        have g1 := len_flat (f := stops (back ns tab)) (n := 201) (l := (starts ns tab).take i) fun z hz => hfl z (List.mem_of_mem_take hz)
        have g2 := hfl x hxm
        have g3 : ((starts ns tab).take i).length ≤ 201 := by rw [List.length_take]; omega
        have g4 : ((stops (back ns tab) x).take j).length ≤ 201 := by rw [List.length_take]; omega
        rw [List.length_append]
        have g5 : ((starts ns tab).take i).length * 201 ≤ 201 * 201 := Nat.mul_le_mul_right _ g3
        omega
      refine s_dput (k := Sum.inl (y : Int)) (v := .int ((((((starts ns tab).take i).flatMap (stops (back ns tab)) ++ (stops (back ns tab) x).take j).count y : Nat) : Int) + 1)) ?_ (ev_var rfl) (ev_var rfl) h3 (by omega) fun H4 e4 h4 => ?_
      · refine ev_is (ev_op (x := .int ((((((starts ns tab).take i).flatMap (stops (back ns tab)) ++ (stops (back ns tab) x).take j).count y : Nat) : Int))) (ev_is (ev_dget2 (k := Sum.inl (y : Int)) (ev_var rfl) (ev_var rfl) ev_c h3) ?_) ev_c rv_I0) rfl
        rw [hh3.val y]
        by_cases hm : y ∈ (((starts ns tab).take i).flatMap (stops (back ns tab)) ++ (stops (back ns tab) x).take j)
        · rw [if_pos hm]
          rfl
        · rw [if_neg hm, List.count_eq_zero_of_not_mem hm]
          rfl
      · refine ⟨_, _, rfl, e4.ex e3 hd, h4, e4 _ _ hp3 npd, npd, ?_⟩
        rw [take_snoc hy, ← List.append_assoc]
        exact hh3.put y
    · rintro p σ' H3 ⟨v4, kvs, rfl, e3, h3, hp3, npd, hh3⟩
      refine ⟨_, _, kvs, rfl, e3, h3, ?_⟩
      have el : (nVs (stops (back ns tab) x)).length = (stops (back ns tab) x).length := by simp [nVs]
      rw [el, List.take_length] at hh3
      rw [take_snoc hx, List.flatMap_append]
      simpa using hh3
  · rintro σ' H2 ⟨v3, v4, kvs, rfl, e2, h2, hh⟩
    have el : (nVs (starts ns tab)).length = (starts ns tab).length := by simp [nVs]
    rw [el, List.take_length] at hh
    obtain ⟨⟨ks, hk1, hk2⟩, hv, hlen⟩ := hh
    have hall : ((starts ns tab).flatMap (stops (back ns tab))).length ≤ 50000 := by
      have g1 := len_flat (f := stops (back ns tab)) (n := 201) (l := starts ns tab) fun z hz => hfl z hz
      have g5 : (starts ns tab).length * 201 ≤ 201 * 201 := Nat.mul_le_mul_right _ hstl
      omega
    have hkl : kvs.length = ks.length := by
      have g := congrArg List.length hk1
      simpa using g
    -- return max([...])
    refine ⟨d, _, h2, trivial, fun od => ?_⟩
    have hd3 : (upd H2 d (.frz od (.dK kvs))) d = some (.frz od (.dK kvs)) := upd_same
    have nst : ∀ {xs : List V}, SqL K H2 st xs → SqL K (upd H2 d (.frz od (.dK kvs))) st xs := fun {xs} h => by
      rcases h with (h | ⟨o, h⟩) | h
      · exact .inl (.inl (by rw [upd_ne (ne_of h h2 (by intro z; cases z))]; exact h))
      · exact .inl (.inr ⟨o, by rw [upd_ne (ne_of h h2 (by intro z; cases z))]; exact h⟩)
      · exact .inr h
    have hS3 := nst (ex_l e2 hSt)
    generalize hH3 : upd H2 d (.frz od (.dK kvs)) = H3 at hd3 hS3 ⊢
    refine ⟨_, rfl, d, od, rfl, .inl ⟨kvs, hd3, fun Dl hD => ?_⟩⟩
    have nDd : Dl ≠ d := fun z => by rw [z, hd3] at hD; cases hD
    refine lc_keys (fun i H' => Ex H3 H' ∧ H' Dl = some (.lst (nVs ((ks.take i).filter fun s => decide (((starts ns tab).flatMap (stops (back ns tab))).count s = (starts ns tab).length))))) ⟨Ex.new hD, upd_same⟩ (fun i H' _ p => p.1 _ _ hd3) ?_ ?_
    · rintro i k v H' hi ⟨p1, p2⟩
      have hik : (kvs.map (·.1))[i]? = some k := get_map hi
      rw [hk1] at hik
      obtain ⟨s, hs, rfl⟩ := map_get hik
      have hsm := (hk2 s).mp (List.mem_of_getElem? hs)
      have hvs := hv s
      rw [if_pos hsm] at hvs
      refine ⟨rfl, ?_⟩
      refine et_test (b := decide (V.int (((starts ns tab).flatMap (stops (back ns tab))).count s : Int) = V.int ((nVs (starts ns tab)).length : Int))) (ev_op (ev_dget (k := Sum.inl (s : Int)) (ev_var rfl) (ev_var rfl) (.inr ⟨od, p1 _ _ hd3⟩) hvs) (ev_len (ev_var rfl) (ex_l p1 hS3)) (rv_eq rfl)) H' (Ex.refl _) _ fun H4 e4 => ?_
      have eb : decide (V.int (((starts ns tab).flatMap (stops (back ns tab))).count s : Int) = V.int ((nVs (starts ns tab)).length : Int)) = decide (((starts ns tab).flatMap (stops (back ns tab))).count s = (starts ns tab).length) := by
        rw [el]
        exact decide_eq_decide.mpr ⟨fun z => Int.ofNat.inj (V.int.inj z), fun z => by rw [z]⟩
      rw [eb]
      have hil := lt_of_get hs
      have hfl2 : (nVs ((ks.take i).filter fun s => decide (((starts ns tab).flatMap (stops (back ns tab))).count s = (starts ns tab).length))).length < sizeLine := by
        refine sz_lt ?_
        have g1 := List.length_filter_le (fun s => decide (((starts ns tab).flatMap (stops (back ns tab))).count s = (starts ns tab).length)) (ks.take i)
        rw [List.length_take] at g1
        simp only [nVs, List.length_map]
        omega
      by_cases hc : ((starts ns tab).flatMap (stops (back ns tab))).count s = (starts ns tab).length
      · rw [decide_eq_true hc, if_pos rfl]
        refine ⟨_, rfl, _, e4 _ _ p2, hfl2, Ex.mut (p1.trans e4) hD, ?_⟩
        · rw [upd_same, take_snoc hs, List.filter_append]
          simp [hc, nVs, kV]
      · rw [decide_eq_false hc, if_neg Bool.false_ne_true]
        refine ⟨p1.trans e4, ?_⟩
        rw [take_snoc hs, List.filter_append]
        simp only [List.filter_cons, List.filter_nil, decide_eq_false hc, if_neg Bool.false_ne_true, List.append_nil]
        exact e4 _ _ p2
    · rintro H' ⟨p1, p2⟩
      rw [hkl, List.take_length] at p2
      have hmem : ∀ s, s ∈ (ks.filter fun s => decide (((starts ns tab).flatMap (stops (back ns tab))).count s = (starts ns tab).length)) ↔ s ∈ stops (back ns tab) (settled ns tab) := fun s => by
        rw [List.mem_filter, decide_eq_true_eq, (count_flat (fun x => stops_nodup hbl x) s (starts ns tab)).2, mem_settled W, hk2 s]
        refine ⟨fun h => h.2, fun h => ⟨?_, h⟩⟩
        exact List.mem_flatMap.mpr ⟨_, len_mem_starts ns tab, h _ (len_mem_starts ns tab)⟩
      have hset := (hmem _).mpr (self_mem_stops (b := back ns tab) (settled ns tab))
      refine ⟨p1 _ _ hd3, Dl, (ks.filter fun s => decide (((starts ns tab).flatMap (stops (back ns tab))).count s = (starts ns tab).length)).map fun (n : Nat) => (n : Int), rfl, ?_, ?_, fun m hm hle => ?_⟩
      · refine sq_of ?_
        rw [upd_ne nDd, p2, List.map_map]
        rfl
      · rw [List.length_map]
        exact List.length_pos_of_mem hset
      · obtain ⟨s, hs, rfl⟩ := List.mem_map.mp hm
        have h1 := stops_le hbl ((hmem s).mp hs)
        have h2 := hle _ (List.mem_map.mpr ⟨_, hset, rfl⟩)
        have h3 : s = settled ns tab := by omega
        rw [h3]
        refine q _ fun b o hb => ?_
        have hbd : b ≠ d := fun z => by
          rw [z] at hb
          rw [hb] at hd
          cases hd
        rw [upd_ne hbd]
        refine p1 _ _ ?_
        rw [← hH3, upd_ne hbd]
        exact e2 _ _ hb
end Sv
namespace Sv
open PySem PySem.Spec PyProof.Rows L2 Evl TL
theorem ok_law_cut {P : Program} {w : World} {K : PySem.W.Frag} {mg : Str → Option Value} {base : Heap} {k : Nat} (T : Top K mg)  :
    Ok P w K mg base (k + 1) (He.ga K "_law_cut") p_law_cut (sp_law_cut K) := by
  obtain ⟨fd, FD⟩ := T.d_law_cut
  refine ⟨fd, FunD.ok FD sc_law_cut (fun vs H Q E h => by obtain ⟨_, _, _, _, rfl, _⟩ := h; rfl) (fun cdv A outer s H vs Q E hr h => ?_), FD.bindsN fun _ _ _ _ _ _ us hl => match us, hl with | [_, _], _ => rfl, FD.kp⟩
  have nd := sc_law_cut.nd
  have hu := hu_of hr
  refine ⟨_, PSs.nox (pss_cons (ps_set (i := 2) nd rfl (Or.inl rfl) (pe_lst pa_nil))
      (pss_cons (ps_while PassesOwn.never (pt_cmpR op_gt (pv 1) pe_int (nomark _))
       (pss_cons (ps_asg (pe_ix (ix_listK (K := K)) (pv 0) (pv 1) (fun _ _ => rfl)) (pg_tupK (K := K) rfl (pgs_cons (pg_name (i := 3) nd rfl (Or.inl rfl)) (pgs_cons (pg_name (i := 4) nd rfl (Or.inl rfl)) pgs_nil))))
        (pss_cons (ps_if (pt_cmpR op_ne (pv 4) pe_str (nomark _))
         (pss_one (ps_expr (pe_bmK (K := K) PySem.F.plainAttrs_list PySem.F.slot_list_append PySem.F.type_list_append mt_append (pv 2) (pa_cons (pe_tup (pa_cons (pv 3) (pa_cons (pv 4) pa_nil))) pa_nil)))) pss_nil)
        (pss_one (ps_set (i := 1) nd rfl (Or.inl rfl) (pv 3))))))
      (pss_one (ps_ret (pe_revLK (K := K) (pv 2)))))), ?_⟩
  obtain ⟨a, e, ns, tab, rfl, hB, hl, W, hne, he, q⟩ := h
  refine q_asgG (eg_lst0 (K := K)) fun vc H1 e1 pc => ?_
  obtain ⟨c, rfl, hc, hcR⟩ := pc
  refine q_while (fun m σ' H' => ∃ (e' : Nat) (v3 v4 : Option V) (acc : List (Nat × Str)), σ' = [some (.ref a), some (.int (e' : Int)), some (.ref c), v3, v4] ∧ Ex H H' ∧ e' ≤ e ∧ cut ns tab e = cut ns tab e' ++ acc.reverse ∧
      RowsN K H' c (acc.map pieV) ∧ acc.length + e' ≤ e ∧ m = e') e ⟨e, none, none, [], rfl, e1, Nat.le_refl _, by simp, hcR, by simp, rfl⟩ ?_
  rintro m σ' H2 ⟨e', v3, v4, acc, rfl, e2, he', hcut, hR, hal, hm⟩
  refine ⟨_, et_test (ev_op (ev_var rfl) ev_c rv_I0), fun hpos H3 e3 => ?_, fun hz H3 e3 => ?_⟩
  · have hpos' : 0 < e' := by
      have := of_decide_eq_true hpos
      omega
    have hbl := back_lt (roll := ns) W e' hpos'
    have hcp := cut_pos (roll := ns) W hpos'
    obtain ⟨ts, hL, hA⟩ := hB.mono (e2.trans e3)
    obtain ⟨tk, htk, hT⟩ := hA.get (i := e') (get_map (backRs_get (by omega)))
    refine ⟨fun σ2 H' => ∃ (e' : Nat) (v3 v4 : Option V) (acc : List (Nat × Str)), σ2 = [some (.ref a), some (.int (e' : Int)), some (.ref c), v3, v4] ∧ Ex H H' ∧ e' < m ∧ cut ns tab e = cut ns tab e' ++ acc.reverse ∧
      RowsN K H' c (acc.map pieV) ∧ acc.length + e' ≤ e, ?_, ?_⟩
    · rintro σ2 H7 ⟨e2', v3', v4', acc', h1, h2, h3, h4, h5, h6⟩
      exact ⟨e2', h3, e2', v3', v4', acc', h1, h2, by omega, h4, h5, h6, rfl⟩
    · refine q_asgT2 (ev_op (ev_var rfl) (ev_var rfl) (rv_ixL hL (at_int rfl htk))) hT fun H4 e4 => ?_
      have e24 := (e2.trans e3).trans e4
      have hnm : ∀ (nm : Str), (bk ns tab e').2 = some nm → nm ≠ Str.empty := fun nm hn => by
        obtain ⟨j, rfl⟩ : ∃ j, e' = j + 1 := ⟨e' - 1, by omega⟩
        by_cases hh : hgt ns tab (j + 1) = hgt ns tab j
        · rw [bk_same hh] at hn
          cases hn
        · obtain ⟨kd, hk, hmm, _⟩ := lastK_some W hh
          rw [bk_kind hh hk] at hn
          have e9 : kd.name = nm := Option.some.inj hn
          rw [← e9]
          exact hne kd hmm
      refine q_ifK (b := !decide (V.str (backR ns tab e').2 = V.str Str.empty)) (fun σ2 H' => ∃ (acc' : List (Nat × Str)) , σ2 = [some (.ref a), some (.int (e' : Int)), some (.ref c), some (.int ((backR ns tab e').1 : Int)), some (.str (backR ns tab e').2)] ∧ Ex H H' ∧ cut ns tab e = cut ns tab (back ns tab e') ++ acc'.reverse ∧
        RowsN K H' c (acc'.map pieV) ∧ acc'.length ≤ acc.length + 1) (et_test (ev_op (ev_var rfl) ev_c (rv_ne rfl))) (fun kk hb H5 e5 => ?_) (fun kk hb H5 e5 => ?_) ?_
      · have hsome : ∃ nm, (bk ns tab e').2 = some nm := by
          cases q9 : (bk ns tab e').2 with
          | some nm => exact ⟨nm, rfl⟩
          | none =>
            unfold backR at hb
            rw [q9] at hb
            simp at hb
        obtain ⟨nm, hn⟩ := hsome
        refine s_appR (rows := acc.map pieV) (row := pieV (backR ns tab e')) (hR.mono ((e3.trans e4).trans e5)) (ev_var rfl) (eu_tup (ea_cons (ev_var rfl) (ea_cons (ev_var rfl) ea_nil)) (by show 2 ≤ 100000; decide)) (by rw [List.length_map]; omega) fun H6 e6 hR6 => kk _ _ ?_
        refine ⟨acc ++ [backR ns tab e'], rfl, e6.ex (e24.trans e5) hc, ?_, by rw [List.map_append]; exact hR6, by simp⟩
        rw [hcut, hcp]
        unfold piece backR
        rw [hn]
        simp
      · have hnone : (bk ns tab e').2 = none := by
          cases q9 : (bk ns tab e').2 with
          | none => rfl
          | some nm =>
            unfold backR at hb
            rw [q9] at hb
            simp at hb
            exact absurd hb (hnm nm q9)
        refine kk _ _ ⟨acc, rfl, e24.trans e5, ?_, hR.mono ((e3.trans e4).trans e5), by omega⟩
        rw [hcut, hcp]
        unfold piece
        rw [hnone]
        simp
      · rintro σ2 H5 ⟨acc', rfl, f2, f3, f4, f5⟩
        refine s_asg (ev_var rfl) fun H6 e6 => ?_
        exact ⟨back ns tab e', _, _, acc', rfl, f2.trans e6, by omega, f3, f4.mono e6, by omega⟩
  · have hz' : e' = 0 := by
      have := of_decide_eq_false hz
      omega
    subst hz'
    have ec : cut ns tab e = acc.reverse := by rw [hcut, cut_zero]; rfl
    refine s_retG (eg_revR (ev_var rfl) (hR.mono e3).l) fun v H4 e4 pv => q v H4 ((e2.trans e3).trans e4) ?_
    obtain ⟨c', rfl, hc', hR'⟩ := pv
    rw [← List.map_reverse, ← ec] at hR'
    exact ⟨c', rfl, fresh_back (e2.trans e3) hc', hR'⟩
end Sv
namespace Sv
open PySem PySem.Spec PyProof.Rows L2 Evl TL
theorem ok_law_sure {P : Program} {w : World} {K : PySem.W.Frag} {mg : Str → Option Value} {base : Heap} {k : Nat} (T : Top K mg) (O_law_back : Ok P w K mg base k (He.ga K "_law_back") p_law_back (sp_law_back K)) (O_law_starts : Ok P w K mg base k (He.ga K "_law_starts") p_law_starts (sp_law_starts K)) (O_law_settled : Ok P w K mg base k (He.ga K "_law_settled") p_law_settled (sp_law_settled K)) (O_law_cut : Ok P w K mg base k (He.ga K "_law_cut") p_law_cut (sp_law_cut K)) :
    Ok P w K mg base (k + 1) (He.ga K "_law_sure") p_law_sure (sp_law_sure K) := by
  obtain ⟨fd_law_back, F_law_back, b_law_back, k_law_back⟩ := O_law_back
  obtain ⟨fd_law_starts, F_law_starts, b_law_starts, k_law_starts⟩ := O_law_starts
  obtain ⟨fd_law_settled, F_law_settled, b_law_settled, k_law_settled⟩ := O_law_settled
  obtain ⟨fd_law_cut, F_law_cut, b_law_cut, k_law_cut⟩ := O_law_cut
  obtain ⟨fd, FD⟩ := T.d_law_sure
  refine ⟨fd, FunD.ok FD sc_law_sure (fun vs H Q E h => by obtain ⟨_, _, _, _, rfl, _⟩ := h; rfl) (fun cdv A outer s H vs Q E hr h => ?_), FD.bindsN fun _ _ _ _ _ _ us hl => match us, hl with | [_, _], _ => rfl, FD.kp⟩
  have nd := sc_law_sure.nd
  have hu := hu_of hr
  refine ⟨_, PSs.nox (pss_cons (ps_set (i := 2) nd rfl (Or.inl rfl) (pe_call F_law_back hr rfl T.g_law_back k_law_back b_law_back .nil pass0 (pa_cons (pv 0) (pa_cons (pv 1) pa_nil))))
      (pss_cons (ps_set (i := 3) nd rfl (Or.inl rfl) (pe_call F_law_settled hr rfl T.g_law_settled k_law_settled b_law_settled .nil pass0 (pa_cons (pv 2) (pa_cons (pe_call F_law_starts hr rfl T.g_law_starts k_law_starts b_law_starts .nil pass0 (pa_cons (pv 0) (pa_cons (pv 1) pa_nil))) pa_nil))))
      (pss_one (ps_ret (pe_tup (pa_cons (pv 3) (pa_cons (pe_call F_law_cut hr rfl T.g_law_cut k_law_cut b_law_cut .nil pass0 (pa_cons (pv 2) (pa_cons (pv 3) pa_nil))) pa_nil))))))), ?_⟩
  obtain ⟨a, b, ns, tab, rfl, hS, hTb, hl, hlt, W, hne, q⟩ := h
  refine q_asgG (eg_call (ea_cons (ev_var rfl) (ea_cons (ev_var rfl) ea_nil)) (fun H1 e Q k E => ⟨a, b, ns, tab, rfl, ex_l e hS, hTb.mono e, hl, hlt, W, k⟩) fun _ _ _ _ e p => newR_back _ _ _ _ e p) fun v H1 e1 p1 => ?_
  obtain ⟨bf, rfl, hbf, hB⟩ := p1
  refine q_asg (v := .int ((settled ns tab : Nat) : Int)) (ev_callG2 (P := NewL (nVs (starts ns tab))) (ev_var rfl) (EvL.g (el_call (ea_cons (ev_var rfl) (ea_cons (ev_var rfl) ea_nil)) fun H2 e2 Q k E => ⟨a, b, ns, tab, rfl, ex_l (e1.trans e2) hS, hTb.mono (e1.trans e2), hl, W, k⟩)) fun H2 v H3 e2 p e3 H4 e4 Q k E => ?_) fun H2 e2 => ?_
  · obtain ⟨st, rfl, _, hst⟩ := p
    exact ⟨bf, st, ns, tab, rfl, hB.l.mono (e2.trans (e3.trans e4)), sq_of (e4 _ _ hst), hl, W, k⟩
  · refine s_retTup2 (EvG.of (ev_var rfl)) (eg_call (ea_cons (ev_var rfl) (ea_cons (ev_var rfl) ea_nil)) (fun H3 e3 Q k E => ⟨bf, settled ns tab, ns, tab, rfl, hB.l.mono (e2.trans e3), hl, W, hne, settled_le W, k⟩) fun _ _ _ _ e p => newR_back _ _ _ _ e p) fun v w H3 H4 p e3 p3 e4 p4 hp => ?_
    subst p3
    obtain ⟨c, rfl, hc, hR⟩ := p4
    have e13 := (e1.trans e2).trans e3
    exact q p c _ (fresh_back e13 hc) ((e13.trans e4).trans (Ex.new hp)) upd_same (hR.mono (Ex.new hp))
end Sv
namespace Sv
open PySem PySem.Spec PyProof.Rows L2 Evl TL
theorem ok_law_line {P : Program} {w : World} {K : PySem.W.Frag} {mg : Str → Option Value} {base : Heap} {k : Nat} (T : Top K mg)  :
    Ok P w K mg base (k + 1) (He.ga K "_law_line") p_law_line (sp_law_line K) := by
  obtain ⟨fd, FD⟩ := T.d_law_line
  refine ⟨fd, FunD.ok FD sc_law_line (fun vs H Q E h => by obtain ⟨_, _, rfl, _⟩ := h; rfl) (fun cdv A outer s H vs Q E hr h => ?_), FD.bindsN fun _ _ _ _ _ _ us hl => match us, hl with | [_], _ => rfl, FD.kp⟩
  have nd := sc_law_line.nd
  have hu := hu_of hr
  refine ⟨_, PSs.nox (pss_cons (ps_if (pt_cmpR op_eq (pe_callB (call_lenK (K := K)) (by rfl) T.f_len (by decide +kernel) (pa_cons (pv 0) pa_nil)) pe_int (nomark _))
       (pss_one (ps_ret pe_str)) pss_nil)
      (pss_one (ps_ret (pe_joinK (K := K) pe_str (pe_lc (own := [("_law_one", 1)]) (g := gName 1) rfl nd (pi_listK (K := K) (pv 0)) (blkOk_by (own := [("_law_one", 1)]) (N := N_law_line) (sc := defScope s_law_line) (by decide +kernel)) (fun _ _ _ _ _ => (pg_name (i := 1) nd rfl (Or.inl rfl))) (fun _ _ _ _ _ => pts_nil) (fun _ _ _ _ _ => (pe_callTy call_str_int (by rfl) T.f_str (by decide +kernel) (pa_cons (pv 1) pa_nil)))))))), ?_⟩
  obtain ⟨a, ns, rfl, hS, hok, q⟩ := h
  have hlen := hok.1
  refine q_when (b := decide (ns = [])) (et_is (et_test (ev_op (ev_len (ev_var rfl) hS) ev_c (rv_eq rfl))) ?_) (fun hb H1 e1 => ?_) (fun hb H1 e1 => ?_)
  · rw [List.length_map]
    refine decide_eq_decide.mpr ⟨fun z => ?_, fun z => by rw [z]; rfl⟩
    have := V.int.inj z
    exact List.eq_nil_of_length_eq_zero (by omega)
  · refine s_ret (ev_is ev_c ?_) fun H2 e2 => q H2 (e1.trans e2)
    unfold numsLine
    rw [if_pos (of_decide_eq_true hb)]
  · have hne := of_decide_eq_false hb
    refine s_ret (ev_is (ev_joinN (ys := ns.map numS) ev_c ?_ ?_) ?_) fun H2 e2 => q H2 (e1.trans e2)
    · rw [List.map_map]
      exact el_lcM (xs := ns) (g := V.int) (fun z => V.str (numS z)) (ev_var rfl) (ex_l e1 hS) (by omega) (fun _ => rfl) fun z H2 e2 hz => ev_str (ev_var rfl) (by
        obtain ⟨z1, z2⟩ := hok.2 z hz
        exact log_ok (by omega) (by omega))
    · have h1 : ((ns.map numS).map (·.length)).sum ≤ (ns.map numS).length * 19 := sum_le fun x hx => by
        obtain ⟨z, hz, rfl⟩ := List.mem_map.mp hx
        obtain ⟨z1, z2⟩ := hok.2 z hz
        rw [len_tl]
        exact num_len z1 z2
      have h2 : (" " : Str).length = 1 := by decide +kernel
      rw [List.length_map] at h1 ⊢
      rw [h2]
      omega
    · unfold numsLine
      rw [if_neg hne]
end Sv
namespace Sv
open PySem PySem.Spec PyProof.Rows L2 Evl TL
theorem ok_law_cutting_line {P : Program} {w : World} {K : PySem.W.Frag} {mg : Str → Option Value} {base : Heap} {k : Nat} (T : Top K mg)  :
    Ok P w K mg base (k + 1) (He.ga K "_law_cutting_line") p_law_cutting_line (sp_law_cutting_line K) := by
  obtain ⟨fd, FD⟩ := T.d_law_cutting_line
  refine ⟨fd, FunD.ok FD sc_law_cutting_line (fun vs H Q E h => by obtain ⟨_, _, rfl, _⟩ := h; rfl) (fun cdv A outer s H vs Q E hr h => ?_), FD.bindsN fun _ _ _ _ _ _ us hl => match us, hl with | [_], _ => rfl, FD.kp⟩
  have nd := sc_law_cutting_line.nd
  have hu := hu_of hr
  refine ⟨_, PSs.nox (pss_cons (ps_if (pt_cmpR op_eq (pe_callB (call_lenK (K := K)) (by rfl) T.f_len (by decide +kernel) (pa_cons (pv 0) pa_nil)) pe_int (nomark _))
       (pss_one (ps_ret pe_str)) pss_nil)
      (pss_one (ps_ret (pe_joinK (K := K) pe_str (pe_lc (own := [("_law_place", 2), ("_law_name", 1)]) (g := gTup K 2 (gCons (gName 2) (gCons (gName 1) gNil))) rfl nd (pi_listK (K := K) (pv 0)) (blkOk_by (own := [("_law_place", 2), ("_law_name", 1)]) (N := N_law_cutting_line) (sc := defScope s_law_cutting_line) (by decide +kernel)) (fun _ _ _ _ _ => (pg_tupK (K := K) rfl (pgs_cons (pg_name (i := 2) nd rfl (Or.inl rfl)) (pgs_cons (pg_name (i := 1) nd rfl (Or.inl rfl)) pgs_nil)))) (fun _ _ _ _ _ => pts_nil) (fun _ _ _ _ _ => (pe_op op_add_str (pe_op op_add_str (pe_callTy call_str_int (by rfl) T.f_str (by decide +kernel) (pa_cons (pv 2) pa_nil)) pe_str) (pv 1)))))))), ?_⟩
  obtain ⟨a, ps, rfl, hP, hok, q⟩ := h
  have hlen := hok.1
  refine q_when (b := decide (ps = [])) (et_is (et_test (ev_op (ev_lenR (ev_var rfl) hP) ev_c (rv_eq rfl))) (by
    rw [List.length_map]
    refine decide_eq_decide.mpr ⟨fun z => ?_, fun z => by rw [z]; rfl⟩
    have := V.int.inj z
    exact List.eq_nil_of_length_eq_zero (by omega))) (fun hb H1 e1 => ?_) (fun hb H1 e1 => ?_)
  · refine s_ret (ev_is ev_c ?_) fun H2 e2 => q H2 (e1.trans e2)
    unfold cutLine
    rw [if_pos (of_decide_eq_true hb)]
  · have hne := of_decide_eq_false hb
    refine s_ret (ev_is (ev_joinN (ys := ps.map pieW) ev_c ?_ (pies_size hok)) ?_) fun H2 e2 => q H2 (e1.trans e2)
    · rw [List.map_map]
      refine el_lcT2 (xs := ps) (g1 := fun p => V.int (p.1 : Int)) (g2 := fun p => V.str p.2) (fun p => V.str (pieW p)) (ev_var rfl) (hP.mono e1) (by omega) (fun _ _ => rfl) fun p H2 e2 hp => ?_
      obtain ⟨p1, p2⟩ := hok.2 p hp
      obtain ⟨l1, l2⟩ := pie_num hok hp
      have lc : (":" : Str).length = 1 := by decide +kernel
      exact ev_op (ev_op (ev_str (ev_var rfl) (log_ok (by omega) (by omega))) ev_c (rv_adds (by omega))) (ev_var rfl) (rv_adds (by rw [app_len]; omega))
    · unfold cutLine
      rw [if_neg hne]
end Sv
namespace Sv
open PySem PySem.Spec PyProof.Rows L2 Evl TL
theorem ok_law_take {P : Program} {w : World} {K : PySem.W.Frag} {mg : Str → Option Value} {base : Heap} {k : Nat} (T : Top K mg) (O_law_sure : Ok P w K mg base k (He.ga K "_law_sure") p_law_sure (sp_law_sure K)) (O_law_line : Ok P w K mg base k (He.ga K "_law_line") p_law_line (sp_law_line K)) (O_law_cutting_line : Ok P w K mg base k (He.ga K "_law_cutting_line") p_law_cutting_line (sp_law_cutting_line K)) (O_law_said : Ok P w K mg base k (He.ga K "_law_said") p_law_said (sp_law_said K)) :
    Ok P w K mg base (k + 1) (He.ga K "_law_take") p_law_take (sp_law_take K) := by
  obtain ⟨fd_law_sure, F_law_sure, b_law_sure, k_law_sure⟩ := O_law_sure
  obtain ⟨fd_law_line, F_law_line, b_law_line, k_law_line⟩ := O_law_line
  obtain ⟨fd_law_cutting_line, F_law_cutting_line, b_law_cutting_line, k_law_cutting_line⟩ := O_law_cutting_line
  obtain ⟨fd_law_said, F_law_said, b_law_said, k_law_said⟩ := O_law_said
  obtain ⟨fd, FD⟩ := T.d_law_take
  refine ⟨fd, FunD.ok FD sc_law_take (fun vs H Q E h => by obtain ⟨_, _, _, _, _, _, _, _, _, _, rfl, _⟩ := h; rfl) (fun cdv A outer s H vs Q E hr h => ?_), FD.bindsN fun _ _ _ _ _ _ us hl => match us, hl with | [_, _, _, _, _], _ => rfl, FD.kp⟩
  have nd := sc_law_take.nd
  have hu := hu_of hr
  refine ⟨_, PSs.nox (pss_cons (ps_set (i := 5) nd rfl (Or.inl rfl) (pe_callB (call_lenK (K := K)) (by rfl) T.f_len (by decide +kernel) (pa_cons (pe_ix (ix_tupK (K := K)) (pe_call F_law_sure hr rfl T.g_law_sure k_law_sure b_law_sure .nil pass0 (pa_cons (pv 2) (pa_cons (pv 4) pa_nil))) pe_int (fun _ _ => rfl)) pa_nil)))
      (pss_cons (ps_set (i := 6) nd rfl (Or.inl rfl) (pe_slice (sl_listK (K := K)) (pe_ix (ix_tupK (K := K)) (pe_call F_law_sure hr rfl T.g_law_sure k_law_sure b_law_sure .nil pass0 (pa_cons (pe_op op_cat (pv 2) (pv 3)) (pa_cons (pv 4) pa_nil))) pe_int (fun _ _ => rfl)) (po_some (pv 5)) po_none))
      (pss_one (ps_ret (pe_call F_law_said hr rfl T.g_law_said k_law_said b_law_said .nil pass0 (pa_cons (pv 0) (pa_cons (pe_op op_add_str (pe_op op_add_str (pe_op op_add_str pe_str (pv 1)) pe_str) (pe_call F_law_line hr rfl T.g_law_line k_law_line b_law_line .nil pass0 (pa_cons (pv 3) pa_nil))) (pa_cons (pe_lst (pa_cons (pe_call F_law_cutting_line hr rfl T.g_law_cutting_line k_law_cutting_line b_law_cutting_line .nil pass0 (pa_cons (pv 6) pa_nil)) pa_nil)) pa_nil)))))))), ?_⟩
  obtain ⟨d, ro, mo, tb, n, own, A, tab, s, more, rfl, hD, hT, hn, hg, hend, hR, nR, hM, nM, hB, nB, hc, hl, q⟩ := h
  have W := hT.wide
  have N := hT.named
  have hle : s.ns.length ≤ 200 := by omega
  refine q_asg (v := .int ((sure s.ns tab).length : Int)) (ev_is (ev_lenG (eg_sure1 (ns := s.ns) (tab := tab) (eg_call (ea_cons (ev_var rfl) (ea_cons (ev_var rfl) ea_nil)) (sp_sureG (sq_of hR) hB.l hle hT) sure_back))) (by rw [List.length_map])) fun H1 e1 => ?_
  refine q_asgG (eg_dropG (rows := (sure (s.ns ++ more) tab).map pieV) (n := (sure s.ns tab).length) (eg_sure1 (ns := s.ns ++ more) (tab := tab) (eg_callL2 (xs := (s.ns ++ more).map V.int) (el_is (el_cat (ev_var rfl) (ev_var rfl) (e1 _ _ hR) (e1 _ _ hM) (by rw [List.length_map, List.length_map]; omega)) (by rw [List.map_append])) (ev_var rfl) (fun p H2 e2 h2 => sp_sureG (sq_of h2) (hB.mono (e1.trans e2)).l (by rw [List.length_append]; exact hl) hT) sure_back)) (eo_some (ev_var rfl)) eo_none) fun v H2 e2 p2 => ?_
  obtain ⟨c, rfl, hcn, hP⟩ := p2
  have e12 := e1.trans e2
  have hm : ∀ c ∈ more, 0 ≤ c := fun c h => (hc.2 c h).1
  have ed : ((sure (s.ns ++ more) tab).map pieV).drop (sure s.ns tab).length = (newlies tab s.ns more).map pieV := by
    rw [newlies_eq W hm, List.map_drop]
  rw [ed] at hP
  have hok := pieOk_newlies (ns := s.ns) W N hm hl
  refine s_retRaw (t_said (r := .take n more) (ev_var rfl) (ev_op (ev_op (ev_op ev_c (ev_var rfl) (rv_adds ?_)) ev_c (rv_adds ?_)) (ev_call (ea_cons (ev_var rfl) ea_nil) fun H3 e3 Q k E => ⟨mo, more, rfl, ex_l (e12.trans e3) (sq_of hM), hc, k⟩) (rv_adds ?_)) (el_cutl (ev_var rfl) hP.l hok) ?_ ⟨hn, hc⟩ (hD.mono e12) (strOk_cut hok) hT (fun s' h' => ?_) (stepD_take hg (ans_take hend)) fun own3 H3 D3 p3 => q own3 H3 D3 ((Pass.ex e12).trans p3))
  · have h1 : ("take " : Str).length = 5 := by decide +kernel
    have h2 := hn.2.1
    rw [← len_tl] at h2
    omega
  · have h1 : ("take " : Str).length = 5 := by decide +kernel
    have h0 : (" " : Str).length = 1 := by decide +kernel
    have h2 := hn.2.1
    rw [← len_tl] at h2
    rw [app_len]
    omega
  · have h1 : ("take " : Str).length = 5 := by decide +kernel
    have h0 : (" " : Str).length = 1 := by decide +kernel
    have h2 := hn.2.1
    rw [← len_tl] at h2
    have h3 : (numsLine more).length ≤ 201 * 20 := by
      rw [numsLine_eq, len_tl, join_tl, tl_blank]
      have g1 := joinL_len (S := [32]) (m := 19) (ws := (numWs more).map tl) fun w hw => by
        obtain ⟨s, hs, rfl⟩ := List.mem_map.mp hw
        exact (numWs_ok hc s hs).2
      have g2 := numWs_len hc
      rw [List.length_map] at g1
      have g3 : (19 + [32].length) = 20 := rfl
      rw [g3] at g1
      omega
    rw [app_len, app_len]
    omega
  · have e : ("take " : Str) ++ n ++ " " ++ numsLine more = ("take " : Str) ++ n ++ ((" " : Str) ++ numsLine more) := ext_tl (by rw [tl_append, tl_append, tl_append, tl_append, tl_append, tl_append, List.append_assoc])
    rw [e]
    exact line_take (by decide +kernel) (by rw [tl_append, tl_blank])
  · have e : s = s' := Option.some.inj (hg.symm.trans h')
    rw [← e]
    exact hl
end Sv
namespace Sv
open PySem PySem.Spec PyProof.Rows L2 Evl TL
theorem ok_law_asked {P : Program} {w : World} {K : PySem.W.Frag} {mg : Str → Option Value} {base : Heap} {k : Nat} (T : Top K mg) (O_law_sure : Ok P w K mg base k (He.ga K "_law_sure") p_law_sure (sp_law_sure K)) (O_law_back : Ok P w K mg base k (He.ga K "_law_back") p_law_back (sp_law_back K)) (O_law_cut : Ok P w K mg base k (He.ga K "_law_cut") p_law_cut (sp_law_cut K)) (O_law_said : Ok P w K mg base k (He.ga K "_law_said") p_law_said (sp_law_said K)) (O_law_cutting_line : Ok P w K mg base k (He.ga K "_law_cutting_line") p_law_cutting_line (sp_law_cutting_line K)) :
    Ok P w K mg base (k + 1) (He.ga K "_law_asked") p_law_asked (sp_law_asked K) := by
  obtain ⟨fd_law_sure, F_law_sure, b_law_sure, k_law_sure⟩ := O_law_sure
  obtain ⟨fd_law_back, F_law_back, b_law_back, k_law_back⟩ := O_law_back
  obtain ⟨fd_law_cut, F_law_cut, b_law_cut, k_law_cut⟩ := O_law_cut
  obtain ⟨fd_law_said, F_law_said, b_law_said, k_law_said⟩ := O_law_said
  obtain ⟨fd_law_cutting_line, F_law_cutting_line, b_law_cutting_line, k_law_cutting_line⟩ := O_law_cutting_line
  obtain ⟨fd, FD⟩ := T.d_law_asked
  refine ⟨fd, FunD.ok FD sc_law_asked (fun vs H Q E h => by obtain ⟨_, _, _, _, _, _, _, _, rfl, _⟩ := h; rfl) (fun cdv A outer s H vs Q E hr h => ?_), FD.bindsN fun _ _ _ _ _ _ us hl => match us, hl with | [_, _, _, _], _ => rfl, FD.kp⟩
  have nd := sc_law_asked.nd
  have hu := hu_of hr
  refine ⟨_, PSs.nox (pss_cons (ps_asg (pe_call F_law_sure hr rfl T.g_law_sure k_law_sure b_law_sure .nil pass0 (pa_cons (pv 2) (pa_cons (pv 3) pa_nil))) (pg_tupK (K := K) rfl (pgs_cons (pg_name (i := 4) nd rfl (Or.inl rfl)) (pgs_cons (pg_name (i := 5) nd rfl (Or.inl rfl)) pgs_nil))))
      (pss_cons (ps_set (i := 6) nd rfl (Or.inl rfl) (pe_call F_law_cut hr rfl T.g_law_cut k_law_cut b_law_cut .nil pass0 (pa_cons (pe_call F_law_back hr rfl T.g_law_back k_law_back b_law_back .nil pass0 (pa_cons (pv 2) (pa_cons (pv 3) pa_nil))) (pa_cons (pe_callB (call_lenK (K := K)) (by rfl) T.f_len (by decide +kernel) (pa_cons (pv 2) pa_nil)) pa_nil))))
      (pss_cons (ps_if (pt_not (pt_val (pe_call F_law_said hr rfl T.g_law_said k_law_said b_law_said .nil pass0 (pa_cons (pv 0) (pa_cons (pe_op op_add_str pe_str (pv 1)) (pa_cons (pe_lst (pa_cons (pe_callTy call_str_int (by rfl) T.f_str (by decide +kernel) (pa_cons (pv 4) pa_nil)) pa_nil)) pa_nil))))))
       (pss_one (ps_ret pe_bl)) pss_nil)
      (pss_cons (ps_if (pt_not (pt_val (pe_call F_law_said hr rfl T.g_law_said k_law_said b_law_said .nil pass0 (pa_cons (pv 0) (pa_cons (pe_op op_add_str pe_str (pv 1)) (pa_cons (pe_lst (pa_cons (pe_call F_law_cutting_line hr rfl T.g_law_cutting_line k_law_cutting_line b_law_cutting_line .nil pass0 (pa_cons (pv 5) pa_nil)) pa_nil)) pa_nil))))))
       (pss_one (ps_ret pe_bl)) pss_nil)
      (pss_one (ps_ret (pe_call F_law_said hr rfl T.g_law_said k_law_said b_law_said .nil pass0 (pa_cons (pv 0) (pa_cons (pe_op op_add_str pe_str (pv 1)) (pa_cons (pe_lst (pa_cons (pe_call F_law_cutting_line hr rfl T.g_law_cutting_line k_law_cutting_line b_law_cutting_line .nil pass0 (pa_cons (pv 6) pa_nil)) pa_nil)) pa_nil)))))))))), ?_⟩
  obtain ⟨d, ro, tb, n, own, A, tab, s, rfl, hD, hT, hn, hg, hend, hR, nR, hB, nB, q⟩ := h
  have I := hD.inv hg
  have W := hT.wide
  have N := hT.named
  have es : stl tab s = settled s.ns tab := by
    unfold stl
    rw [hend]
    rfl
  have es2 : sureF tab s = sure s.ns tab := by
    unfold sureF
    rw [es]
    rfl
  have hle := settled_le (roll := s.ns) W
  have I1 := I.1
  have hs : ∀ {w : Str} s', A.get (Req.word w n).name = some s' → s'.ns.length + (Req.word w n).more.length ≤ 200 := fun s' h' => by
    have e : s = s' := Option.some.inj (hg.symm.trans h')
    rw [← e]
    exact I.1
  refine q_asgT2G (eg_call (ea_cons (ev_var rfl) (ea_cons (ev_var rfl) ea_nil)) (sp_sureG (sq_of hR) hB.l I.1 hT) sure_back) fun v H1 e1 p1 => ?_
  obtain ⟨t, c, rfl, hc, ht, hP⟩ := p1
  refine ⟨t, rfl, _, _, st_of ht, ?_⟩
  refine q_asgG (eg_told (ns := s.ns) (ev_var rfl) (ev_var rfl) (ev_var rfl) (sq_of (e1 _ _ hR)) (hB.mono e1).l I.1 hT) fun v H2 e2 p2 => ?_
  obtain ⟨c2, rfl, hc2, hP2⟩ := p2
  have e12 := e1.trans e2
  have D2 := hD.mono e12
  have hcn := hD.fresh hc
  have hc2n := (hD.mono e1).fresh hc2
  have hP' := hP.mono e2
  refine q_said (r := .word "settled" n) (ev_var rfl) (ev_op ev_c (ev_var rfl) (rv_adds ?_)) (el_lst (ea_cons (ev_str (ev_var rfl) (log_ok (by omega) (by omega))) ea_nil) (by show 1 ≤ 100000; decide)) (line_word (by decide +kernel)) ⟨by decide +kernel, hn⟩ D2 (strOk_num _) hT hs (stepD_word hg (by decide +kernel) (by rw [ans_settled, es])) fun own3 H3 D3 p3 => ?_
  · have h1 : ("settled " : Str).length = 8 := by decide +kernel
    have h2 := hn.2.1
    rw [← len_tl] at h2
    omega
  rw [hD.put_same hg] at D3
  have hP3 := D2.rows p3.1 hP' hcn
  have hP23 := D2.rows p3.1 hP2 hc2n
  have hcn3 : c ∉ own3 := by
    obtain ⟨ts, h1, _⟩ := hP'
    exact p3.out h1 hcn
  have hc2n3 : c2 ∉ own3 := by
    obtain ⟨ts, h1, _⟩ := hP2
    exact p3.out h1 hc2n
  refine q_said (r := .word "sure" n) (ev_var rfl) (ev_op ev_c (ev_var rfl) (rv_adds ?_)) (el_cutl (ev_var rfl) hP3.l (pieOk_cut W N (by omega))) (line_word (by decide +kernel)) ⟨by decide +kernel, hn⟩ D3 (strOk_cut (pieOk_cut W N (by omega))) hT hs (stepD_word hg (by decide +kernel) (by rw [ans_sure, es2])) fun own4 H4 D4 p4 => ?_
  · have h1 : ("sure " : Str).length = 5 := by decide +kernel
    have h2 := hn.2.1
    rw [← len_tl] at h2
    omega
  rw [hD.put_same hg] at D4
  have hP24 := D3.rows p4.1 hP23 hc2n3
  refine s_retRaw (t_said (r := .word "told" n) (ev_var rfl) (ev_op ev_c (ev_var rfl) (rv_adds ?_)) (el_cutl (ev_var rfl) hP24.l (pieOk_cut W N I1)) (line_word (by decide +kernel)) ⟨by decide +kernel, hn⟩ D4 (strOk_cut (pieOk_cut W N I1)) hT hs (stepD_word hg (by decide +kernel) ans_told) fun own5 H5 D5 p5 => ?_)
  · have h1 : ("told " : Str).length = 5 := by decide +kernel
    have h2 := hn.2.1
    rw [← len_tl] at h2
    omega
  rw [hD.put_same hg] at D5
  exact q own5 H5 D5 ((Pass.ex e12).trans (p3.trans (p4.trans p5)))
end Sv
namespace Sv
open PySem PySem.Spec PyProof.Rows L2 Evl TL
theorem ok_law_closed {P : Program} {w : World} {K : PySem.W.Frag} {mg : Str → Option Value} {base : Heap} {k : Nat} (T : Top K mg) (O_law_sure : Ok P w K mg base k (He.ga K "_law_sure") p_law_sure (sp_law_sure K)) (O_law_back : Ok P w K mg base k (He.ga K "_law_back") p_law_back (sp_law_back K)) (O_law_cut : Ok P w K mg base k (He.ga K "_law_cut") p_law_cut (sp_law_cut K)) (O_law_cutting_line : Ok P w K mg base k (He.ga K "_law_cutting_line") p_law_cutting_line (sp_law_cutting_line K)) (O_law_said : Ok P w K mg base k (He.ga K "_law_said") p_law_said (sp_law_said K)) (O_law_asked : Ok P w K mg base k (He.ga K "_law_asked") p_law_asked (sp_law_asked K)) :
    Ok P w K mg base (k + 1) (He.ga K "_law_closed") p_law_closed (sp_law_closed K) := by
  obtain ⟨fd_law_sure, F_law_sure, b_law_sure, k_law_sure⟩ := O_law_sure
  obtain ⟨fd_law_back, F_law_back, b_law_back, k_law_back⟩ := O_law_back
  obtain ⟨fd_law_cut, F_law_cut, b_law_cut, k_law_cut⟩ := O_law_cut
  obtain ⟨fd_law_cutting_line, F_law_cutting_line, b_law_cutting_line, k_law_cutting_line⟩ := O_law_cutting_line
  obtain ⟨fd_law_said, F_law_said, b_law_said, k_law_said⟩ := O_law_said
  obtain ⟨fd_law_asked, F_law_asked, b_law_asked, k_law_asked⟩ := O_law_asked
  obtain ⟨fd, FD⟩ := T.d_law_closed
  refine ⟨fd, FunD.ok FD sc_law_closed (fun vs H Q E h => by obtain ⟨_, _, _, _, _, _, _, _, rfl, _⟩ := h; rfl) (fun cdv A outer s H vs Q E hr h => ?_), FD.bindsN fun _ _ _ _ _ _ us hl => match us, hl with | [_, _, _, _], _ => rfl, FD.kp⟩
  have nd := sc_law_closed.nd
  have hu := hu_of hr
  refine ⟨_, PSs.nox (pss_cons (ps_set (i := 4) nd rfl (Or.inl rfl) (pe_callB (call_lenK (K := K)) (by rfl) T.f_len (by decide +kernel) (pa_cons (pe_ix (ix_tupK (K := K)) (pe_call F_law_sure hr rfl T.g_law_sure k_law_sure b_law_sure .nil pass0 (pa_cons (pv 2) (pa_cons (pv 3) pa_nil))) pe_int (fun _ _ => rfl)) pa_nil)))
      (pss_cons (ps_set (i := 5) nd rfl (Or.inl rfl) (pe_call F_law_cut hr rfl T.g_law_cut k_law_cut b_law_cut .nil pass0 (pa_cons (pe_call F_law_back hr rfl T.g_law_back k_law_back b_law_back .nil pass0 (pa_cons (pv 2) (pa_cons (pv 3) pa_nil))) (pa_cons (pe_callB (call_lenK (K := K)) (by rfl) T.f_len (by decide +kernel) (pa_cons (pv 2) pa_nil)) pa_nil))))
      (pss_cons (ps_if (pt_not (pt_val (pe_call F_law_said hr rfl T.g_law_said k_law_said b_law_said .nil pass0 (pa_cons (pv 0) (pa_cons (pe_op op_add_str pe_str (pv 1)) (pa_cons (pe_lst (pa_cons (pe_call F_law_cutting_line hr rfl T.g_law_cutting_line k_law_cutting_line b_law_cutting_line .nil pass0 (pa_cons (pe_slice (sl_listK (K := K)) (pv 5) (po_some (pv 4)) po_none) pa_nil)) pa_nil)) pa_nil))))))
       (pss_one (ps_ret pe_bl)) pss_nil)
      (pss_cons (ps_if (pt_not (pt_val (pe_call F_law_said hr rfl T.g_law_said k_law_said b_law_said .nil pass0 (pa_cons (pv 0) (pa_cons (pe_op op_add_str (pe_op op_add_str pe_str (pv 1)) pe_str) (pa_cons (pe_lst (pa_cons pe_str pa_nil)) pa_nil))))))
       (pss_one (ps_ret pe_bl)) pss_nil)
      (pss_cons (ps_if (pt_not (pt_val (pe_call F_law_said hr rfl T.g_law_said k_law_said b_law_said .nil pass0 (pa_cons (pv 0) (pa_cons (pe_op op_add_str (pe_op op_add_str pe_str (pv 1)) pe_str) (pa_cons (pe_lst (pa_cons pe_str pa_nil)) pa_nil))))))
       (pss_one (ps_ret pe_bl)) pss_nil)
      (pss_cons (ps_if (pt_not (pt_val (pe_call F_law_said hr rfl T.g_law_said k_law_said b_law_said .nil pass0 (pa_cons (pv 0) (pa_cons (pe_op op_add_str pe_str (pv 1)) (pa_cons (pe_lst (pa_cons (pe_call F_law_cutting_line hr rfl T.g_law_cutting_line k_law_cutting_line b_law_cutting_line .nil pass0 (pa_cons (pv 5) pa_nil)) pa_nil)) pa_nil))))))
       (pss_one (ps_ret pe_bl)) pss_nil)
      (pss_cons (ps_if (pt_not (pt_val (pe_call F_law_said hr rfl T.g_law_said k_law_said b_law_said .nil pass0 (pa_cons (pv 0) (pa_cons (pe_op op_add_str pe_str (pv 1)) (pa_cons (pe_lst (pa_cons (pe_callTy call_str_int (by rfl) T.f_str (by decide +kernel) (pa_cons (pe_callB (call_lenK (K := K)) (by rfl) T.f_len (by decide +kernel) (pa_cons (pv 2) pa_nil)) pa_nil)) pa_nil)) pa_nil))))))
       (pss_one (ps_ret pe_bl)) pss_nil)
      (pss_cons (ps_if (PW.pt (pw_or (pt_not (pt_val (pe_call F_law_said hr rfl T.g_law_said k_law_said b_law_said .nil pass0 (pa_cons (pv 0) (pa_cons (pe_op op_add_str pe_str (pv 1)) (pa_cons (pe_lst (pa_cons pe_str pa_nil)) pa_nil)))))) (pw_or1 (pt_not (pt_val (pe_call F_law_said hr rfl T.g_law_said k_law_said b_law_said .nil pass0 (pa_cons (pv 0) (pa_cons (pe_op op_add_str pe_str (pv 1)) (pa_cons (pe_lst (pa_cons pe_str pa_nil)) pa_nil)))))))))
       (pss_one (ps_ret pe_bl)) pss_nil)
      (pss_one (ps_ret (pe_call F_law_asked hr rfl T.g_law_asked k_law_asked b_law_asked .nil pass0 (pa_cons (pv 0) (pa_cons (pv 1) (pa_cons (pe_lst pa_nil) (pa_cons (pv 3) pa_nil))))))))))))))), ?_⟩
  obtain ⟨d, ro, tb, n, own, A, tab, s, rfl, hD, hT, hn, hg, hend, hR, nR, hB, nB, h12, hl2, q⟩ := h
  have I := hD.inv hg
  have W := hT.wide
  have N := hT.named
  have I1 := I.1
  have hnl : n.length ≤ 8 := by rw [len_tl]; exact hn.2.1
  have hs : ∀ {A' : DS} {w : Str} {s' : FeedSt}, A'.get n = some s' → s'.ns.length ≤ 200 → ∀ s2, A'.get (Req.word w n).name = some s2 → s2.ns.length + (Req.word w n).more.length ≤ 200 := fun {A' w s'} h1 h2 s2 h' => by
    have e : s' = s2 := Option.some.inj (h1.symm.trans h')
    rw [← e]
    exact h2
  have hs2 : ∀ {A' : DS} {more : List Int} {s' : FeedSt}, A'.get n = some s' → s'.ns.length + more.length ≤ 200 → ∀ s2, A'.get (Req.take n more).name = some s2 → s2.ns.length + (Req.take n more).more.length ≤ 200 := fun {A' more s'} h1 h2 s2 h' => by
    have e : s' = s2 := Option.some.inj (h1.symm.trans h')
    rw [← e]
    exact h2
  have ek : s.known = (sure s.ns tab).length := I.2.2 hend
  refine q_asg (v := .int ((sure s.ns tab).length : Int)) (ev_is (ev_lenG (eg_sure1 (ns := s.ns) (tab := tab) (eg_call (ea_cons (ev_var rfl) (ea_cons (ev_var rfl) ea_nil)) (sp_sureG (sq_of hR) hB.l I1 hT) sure_back))) (by rw [List.length_map])) fun H1 e1 => ?_
  refine q_asgG (eg_told (ns := s.ns) (ev_var rfl) (ev_var rfl) (ev_var rfl) (sq_of (e1 _ _ hR)) (hB.mono e1).l I1 hT) fun v H2 e2 p2 => ?_
  obtain ⟨c2, rfl, hc2, hP2⟩ := p2
  have e12 := e1.trans e2
  have D2 := hD.mono e12
  have hc2n := (hD.mono e1).fresh hc2
  have okT := pieOk_cut (roll := s.ns) (tab := tab) (e := s.ns.length) W N I1
  have okD := okT.drop (sure s.ns tab).length
  -- close
  refine q_said (r := .word "close" n) (a := cutLine ((told s.ns tab).drop (sure s.ns tab).length)) (ev_var rfl) (ev_op ev_c (ev_var rfl) (rv_adds ?_)) (el_cutlG (by
    have g := eg_dropR (K := K) (rows := (told s.ns tab).map pieV) (n := (sure s.ns tab).length) (σ := [some (V.ref d), some (V.str n), some (V.ref ro), some (V.ref tb), some (V.int ((sure s.ns tab).length : Int)), some (V.ref c2)]) (te := tVar 5) (tl := tPart (tVar 4)) (th := tNoPart) (ev_var rfl) (eo_some (ev_var rfl)) eo_none hP2.l
    rw [← List.map_drop] at g
    exact g) okD) (line_word (by decide +kernel)) ⟨by decide +kernel, hn⟩ D2 (strOk_cut okD) hT (hs hg I1) (stepD_word hg (by decide +kernel) (by rw [ans_close hend, ek])) fun own3 H3 D3 p3 => ?_
  · have h1 : ("close " : Str).length = 6 := by decide +kernel
    omega
  have g3 : (A.put n ⟨s.ns, (told s.ns tab).length, true⟩).get n = some ⟨s.ns, (told s.ns tab).length, true⟩ := get_put_same hg
  have P3 := (Pass.ex e12).trans p3
  have hP3 := D2.rows p3.1 hP2 hc2n
  have hc3 : c2 ∉ own3 := by
    obtain ⟨ts, h1, _⟩ := hP2
    exact p3.out h1 hc2n
  have ans0 : ∀ {more : List Int}, more ≠ [] → ansF tab ⟨s.ns, (told s.ns tab).length, true⟩ (.take n more) = some (("no closed" : Str), ⟨s.ns, (told s.ns tab).length, true⟩) := fun h => by
    rw [ansF_take, if_pos rfl, if_neg h]
  -- take n 0 0
  refine q_said (r := .take n [0, 0]) (a := "no closed") (ev_var rfl) (ev_op (ev_op ev_c (ev_var rfl) (rv_adds ?_)) ev_c (rv_adds ?_)) (el_lst (ea_cons ev_c ea_nil) (by decide)) (line_take (by decide +kernel) (by decide +kernel)) ⟨hn, by decide, by decide⟩ D3 (by decide +kernel) hT (hs2 g3 hl2) (stepD_take g3 (ans0 (by decide))) fun own4 H4 D4 p4 => ?_
  · have h1 : ("take " : Str).length = 5 := by decide +kernel
    omega
  · have h1 : ("take " : Str).length = 5 := by decide +kernel
    have h0 : (" 0 0" : Str).length = 4 := by decide +kernel
    rw [app_len]
    omega
  rw [D3.put_same g3] at D4
  have P4 := P3.trans p4
  have hP4 := D3.rows p4.1 hP3 hc3
  have hc4 : c2 ∉ own4 := by
    obtain ⟨ts, h1, _⟩ := hP3
    exact p4.out h1 hc3
  -- take n -
  refine q_said (r := .take n []) (a := "-") (ev_var rfl) (ev_op (ev_op ev_c (ev_var rfl) (rv_adds ?_)) ev_c (rv_adds ?_)) (el_lst (ea_cons ev_c ea_nil) (by decide)) (line_take (by decide +kernel) (by decide +kernel)) ⟨hn, by decide, by decide⟩ D4 (by decide +kernel) hT (hs2 g3 (by simpa using I1)) (stepD_take g3 (by rw [ansF_take, if_pos rfl, if_pos rfl]; rfl)) fun own5 H5 D5 p5 => ?_
  · have h1 : ("take " : Str).length = 5 := by decide +kernel
    omega
  · have h1 : ("take " : Str).length = 5 := by decide +kernel
    have h0 : (" -" : Str).length = 2 := by decide +kernel
    rw [app_len]
    omega
  rw [D3.put_same g3] at D5
  have P5 := P4.trans p5
  have hP5 := D4.rows p5.1 hP4 hc4
  have hc5 : c2 ∉ own5 := by
    obtain ⟨ts, h1, _⟩ := hP4
    exact p5.out h1 hc4
  -- sure
  refine q_said (r := .word "sure" n) (a := cutLine (told s.ns tab)) (ev_var rfl) (ev_op ev_c (ev_var rfl) (rv_adds ?_)) (el_cutl (ev_var rfl) hP5.l okT) (line_word (by decide +kernel)) ⟨by decide +kernel, hn⟩ D5 (strOk_cut okT) hT (hs g3 I1) (stepD_word g3 (by decide +kernel) ans_sure) fun own6 H6 D6 p6 => ?_
  · have h1 : ("sure " : Str).length = 5 := by decide +kernel
    omega
  rw [D3.put_same g3] at D6
  have P6 := P5.trans p6
  have hR6 : H6 ro = some (.lst (s.ns.map V.int)) := P6.1 _ _ hR nR
  -- settled
  refine q_said (r := .word "settled" n) (a := numS ((s.ns.length : Nat) : Int)) (ev_var rfl) (ev_op ev_c (ev_var rfl) (rv_adds ?_)) (el_lst (ea_cons (ev_str (ev_is (ev_len (ev_var rfl) (sq_of hR6)) (by rw [List.length_map])) (log_ok (by omega) (by omega))) ea_nil) (by show 1 ≤ 100000; decide)) (line_word (by decide +kernel)) ⟨by decide +kernel, hn⟩ D6 (strOk_num _) hT (hs g3 I1) (stepD_word g3 (by decide +kernel) ans_settled) fun own7 H7 D7 p7 => ?_
  · have h1 : ("settled " : Str).length = 8 := by decide +kernel
    omega
  rw [D3.put_same g3] at D7
  have P7 := P6.trans p7
  -- drop, begin
  have gc : ((A.put n ⟨s.ns, (told s.ns tab).length, true⟩).cut n).get n = none := by rw [get_cut, if_pos rfl]
  have lc := len_cut g3
  rw [len_put] at lc
  refine t_said (r := .word "drop" n) (a := "ok") (ev_var rfl) (ev_op ev_c (ev_var rfl) (rv_adds ?_)) (el_lst (ea_cons ev_c ea_nil) (by decide)) (line_word (by decide +kernel)) ⟨by decide +kernel, hn⟩ D7 (by decide +kernel) hT (hs g3 I1) (stepD_drop g3) fun own8 H8 D8 p8 => ⟨true, rfl, ?_⟩
  · have h1 : ("drop " : Str).length = 5 := by decide +kernel
    omega
  refine t_said (r := .word "begin" n) (a := "ok") (ev_var rfl) (ev_op ev_c (ev_var rfl) (rv_adds ?_)) (el_lst (ea_cons ev_c ea_nil) (by decide)) (line_word (by decide +kernel)) ⟨by decide +kernel, hn⟩ D8 (by decide +kernel) hT (fun s' h' => absurd (gc.symm.trans h') (by simp)) (stepD_begin gc (by omega)) fun own9 H9 D9 p9 => ⟨true, rfl, ?_⟩
  · have h1 : ("begin " : Str).length = 6 := by decide +kernel
    omega
  rw [put_cut] at D9
  rw [put_cut] at gc
  have P9 := P7.trans (p8.trans p9)
  have g9 : DS.get (A.cut n ++ [(n, ⟨[], 0, false⟩)]) n = some ⟨[], 0, false⟩ := by
    rw [get_add, gc, if_pos rfl]
    rfl
  have hB9 : RowsN K H9 tb (tab.map kindV) := hD.rows P9.1 hB nB
  have nB9 : tb ∉ own9 := by
    obtain ⟨ts, h1, _⟩ := hB
    exact P9.out h1 nB
  -- the feed begun anew
  refine s_retRaw (t_call4L (ev_var rfl) (ev_var rfl) (el_lst ea_nil (by decide)) (ev_var rfl) fun re HC HE eC hre eE hE => ?_)
  have e9E := eC.trans eE
  exact ⟨d, re, tb, n, own9, _, tab, _, rfl, D9.mono e9E, hT, hn, g9, rfl, hE, (D9.mono eC).fresh hre, hB9.mono e9E, nB9, fun own' H' D' p => q own' H' D' (P9.trans ((Pass.ex e9E).trans p))⟩
end Sv
namespace Sv
open PySem PySem.Spec PyProof.Rows L2 Evl TL
theorem ok_law {P : Program} {w : World} {K : PySem.W.Frag} {mg : Str → Option Value} {base : Heap} {k : Nat} {fd : FuncData} (T : Top K mg) (FD : FnP K d_law (He.ga K "law") fd) (O_law_drawn : Ok P w K mg base (k + 1) (He.ga K "_law_drawn") p_law_drawn (sp_law_drawn K)) (O_law_flaw : Ok P w K mg base (k + 1) (He.ga K "_law_flaw") p_law_flaw (sp_law_flaw K)) (O_law_roll : Ok P w K mg base (k + 1) (He.ga K "_law_roll") p_law_roll (sp_law_roll K)) (O_law_row : Ok P w K mg base (k + 1) (He.ga K "_law_row") p_law_row (sp_law_row K)) (O_Desk_init : Ok P w K mg base k (He.ma K (He.ga K "Desk") "__init__") p_Desk_init (sp_Desk_init K)) (O_law_table_line : Ok P w K mg base (k + 1) (He.ga K "_law_table_line") p_law_table_line (sp_law_table_line K)) (O_law_said : Ok P w K mg base (k + 1) (He.ga K "_law_said") p_law_said (sp_law_said K)) (O_law_take : Ok P w K mg base (k + 1) (He.ga K "_law_take") p_law_take (sp_law_take K)) (O_law_asked : Ok P w K mg base (k + 1) (He.ga K "_law_asked") p_law_asked (sp_law_asked K)) (O_law_closed : Ok P w K mg base (k + 1) (He.ga K "_law_closed") p_law_closed (sp_law_closed K)) :
    FnOk P w K mg base CX0 (k + 2) (He.ga K "law") fd p_law (sp_law K) := by
  obtain ⟨fd_law_drawn, F_law_drawn, b_law_drawn, k_law_drawn⟩ := O_law_drawn
  obtain ⟨fd_law_flaw, F_law_flaw, b_law_flaw, k_law_flaw⟩ := O_law_flaw
  obtain ⟨fd_law_roll, F_law_roll, b_law_roll, k_law_roll⟩ := O_law_roll
  obtain ⟨fd_law_row, F_law_row, b_law_row, k_law_row⟩ := O_law_row
  obtain ⟨fd_Desk_init, F_Desk_init, b_Desk_init, k_Desk_init⟩ := O_Desk_init
  obtain ⟨fd_law_table_line, F_law_table_line, b_law_table_line, k_law_table_line⟩ := O_law_table_line
  obtain ⟨fd_law_said, F_law_said, b_law_said, k_law_said⟩ := O_law_said
  obtain ⟨fd_law_take, F_law_take, b_law_take, k_law_take⟩ := O_law_take
  obtain ⟨fd_law_asked, F_law_asked, b_law_asked, k_law_asked⟩ := O_law_asked
  obtain ⟨fd_law_closed, F_law_closed, b_law_closed, k_law_closed⟩ := O_law_closed
  refine FunD.ok FD sc_law (fun vs H Q E h => by obtain ⟨_, _, rfl, _⟩ := h; rfl) (fun cdv A outer s H vs Q E hr h => ?_)
  have nd := sc_law.nd
  have hu := hu_of hr
  refine ⟨_, PSs.nox (pss_cons (ps_asg (pe_call F_law_drawn hr rfl T.g_law_drawn k_law_drawn b_law_drawn .nil pass0 (pa_cons (pv 0) (pa_cons pe_int (pa_cons pe_int (pa_cons pe_int pa_nil))))) (pg_tupK (K := K) rfl (pgs_cons (pg_name (i := 1) nd rfl (Or.inl rfl)) (pgs_cons (pg_name (i := 2) nd rfl (Or.inl rfl)) pgs_nil))))
      (pss_cons (ps_set (i := 3) nd rfl (Or.inl rfl) (pe_call F_law_roll hr rfl T.g_law_roll k_law_roll b_law_roll .nil pass0 (pa_cons (pv 0) (pa_cons pe_int (pa_cons pe_int (pa_cons (pe_call F_law_flaw hr rfl T.g_law_flaw k_law_flaw b_law_flaw .nil pass0 (pa_cons (pv 0) (pa_cons pe_int (pa_cons pe_int pa_nil)))) pa_nil))))))
      (pss_cons (ps_set (i := 4) nd rfl (Or.inl rfl) (pe_call F_law_row hr rfl T.g_law_row k_law_row b_law_row .nil pass0 (pa_cons (pv 0) (pa_cons pe_int (pa_cons (pe_op op_cat (pe_lst (pa_cons pe_int pa_nil)) (pe_op op_rep (pe_lst (pa_cons pe_int (pa_cons pe_int (pa_cons pe_int pa_nil)))) pe_int)) pa_nil)))))
      (pss_cons (ps_set (i := 5) nd rfl (Or.inl rfl) (pe_make0 T.mk_Desk F_Desk_init hr rfl T.g_Desk b_Desk_init .nil pass0))
      (pss_cons (ps_if (pt_not (pt_val (pe_call F_law_said hr rfl T.g_law_said k_law_said b_law_said .nil pass0 (pa_cons (pv 5) (pa_cons (pe_op op_add_str pe_str (pe_call F_law_table_line hr rfl T.g_law_table_line k_law_table_line b_law_table_line .nil pass0 (pa_cons (pv 2) pa_nil))) (pa_cons (pe_lst (pa_cons pe_str pa_nil)) pa_nil))))))
       (pss_one (ps_ret pe_bl)) pss_nil)
      (pss_cons (ps_set (i := 6) nd rfl (Or.inl rfl) (pe_lst (pa_cons pe_str (pa_cons pe_str pa_nil))))
      (pss_cons (ps_set (i := 7) nd rfl (Or.inl rfl) (pe_lst (pa_cons (pv 1) (pa_cons (pv 3) pa_nil))))
      (pss_cons (ps_set (i := 8) nd rfl (Or.inl rfl) (pe_lst (pa_cons pe_int (pa_cons pe_int pa_nil))))
      (pss_cons (ps_set (i := 9) nd rfl (Or.inl rfl) (pe_lst (pa_cons pe_int (pa_cons pe_int pa_nil))))
      (pss_cons (ps_for PassesOwn.never rfl (pi_listK (K := K) (pv 6)) (pg_name (i := 10) nd rfl (Or.inl rfl))
       (pss_one (ps_if (pt_not (pt_val (pe_call F_law_said hr rfl T.g_law_said k_law_said b_law_said .nil pass0 (pa_cons (pv 5) (pa_cons (pe_op op_add_str pe_str (pv 10)) (pa_cons (pe_lst (pa_cons pe_str pa_nil)) pa_nil))))))
         (pss_one (ps_ret pe_bl)) pss_nil)))
      (pss_cons (ps_for PassesOwn.never rfl (pi_range1 rfl T.f_range (pa_cons pe_int pa_nil)) (pg_name (i := 11) nd rfl (Or.inl rfl))
       (pss_cons (ps_asg (pe_slice (sl_listK (K := K)) (pv 4) (po_some (pe_op op_add pe_int (pe_op op_mul pe_int (pv 11)))) (po_some (pe_op op_add pe_int (pe_op op_mul pe_int (pv 11))))) (pg_unlK (K := K) rfl (pgs_cons (pg_name (i := 12) nd rfl (Or.inl rfl)) (pgs_cons (pg_name (i := 13) nd rfl (Or.inl rfl)) (pgs_cons (pg_name (i := 14) nd rfl (Or.inl rfl)) pgs_nil)))))
        (pss_cons (ps_set (i := 10) nd rfl (Or.inl rfl) (pe_ix (ix_listK (K := K)) (pv 6) (pv 12) (fun _ _ => rfl)))
        (pss_cons (ps_set (i := 15) nd rfl (Or.inl rfl) (pe_slice (sl_listK (K := K)) (pe_ix (ix_listK (K := K)) (pv 7) (pv 12) (fun _ _ => rfl)) (po_some (pe_ix (ix_listK (K := K)) (pv 9) (pv 12) (fun _ _ => rfl))) (po_some (pe_ix (ix_listK (K := K)) (pv 8) (pv 12) (fun _ _ => rfl)))))
        (pss_cons (ps_set (i := 16) nd rfl (Or.inl rfl) (pe_slice (sl_listK (K := K)) (pe_ix (ix_listK (K := K)) (pv 7) (pv 12) (fun _ _ => rfl)) (po_some (pe_ix (ix_listK (K := K)) (pv 8) (pv 12) (fun _ _ => rfl))) (po_some (pe_op op_add (pe_ix (ix_listK (K := K)) (pv 8) (pv 12) (fun _ _ => rfl)) (pv 13)))))
        (pss_cons (ps_if (pt_not (pt_val (pe_call F_law_take hr rfl T.g_law_take k_law_take b_law_take .nil pass0 (pa_cons (pv 5) (pa_cons (pv 10) (pa_cons (pv 15) (pa_cons (pv 16) (pa_cons (pv 2) pa_nil))))))))
         (pss_one (ps_ret pe_bl)) pss_nil)
        (pss_cons (ps_asg (pe_op op_add (pe_ix (ix_listK (K := K)) (pv 8) (pv 12) (fun _ _ => rfl)) (pe_callB (call_lenK (K := K)) (by rfl) T.f_len (by decide +kernel) (pa_cons (pv 16) pa_nil))) (pg_sub (pv 8) (pv 12) set_list))
        (pss_cons (ps_if (PW.pt (pw_and (pt_cmpR op_gt (pv 14) pe_int (nomark _)) (pw_and1 (pt_not (pt_val (pe_call F_law_asked hr rfl T.g_law_asked k_law_asked b_law_asked .nil pass0 (pa_cons (pv 5) (pa_cons (pv 10) (pa_cons (pe_op op_cat (pv 15) (pv 16)) (pa_cons (pv 2) pa_nil))))))))))
         (pss_one (ps_ret pe_bl)) pss_nil)
        (pss_one (ps_if (pt_cmpR op_eq (pv 11) (pe_ix (ix_listK (K := K)) (pv 4) pe_int (fun _ _ => rfl)) (nomark _))
         (pss_cons (ps_if (pt_not (pt_val (pe_call F_law_closed hr rfl T.g_law_closed k_law_closed b_law_closed .nil pass0 (pa_cons (pv 5) (pa_cons (pv 10) (pa_cons (pe_op op_cat (pv 15) (pv 16)) (pa_cons (pv 2) pa_nil)))))))
           (pss_one (ps_ret pe_bl)) pss_nil)
          (pss_one (ps_asg (pe_ix (ix_listK (K := K)) (pv 8) (pv 12) (fun _ _ => rfl)) (pg_sub (pv 9) (pv 12) set_list)))) pss_nil))))))))))
      (pss_cons (ps_for PassesOwn.never rfl (pi_range1 rfl T.f_range (pa_cons pe_int pa_nil)) (pg_name (i := 12) nd rfl (Or.inl rfl))
       (pss_cons (ps_set (i := 15) nd rfl (Or.inl rfl) (pe_slice (sl_listK (K := K)) (pe_ix (ix_listK (K := K)) (pv 7) (pv 12) (fun _ _ => rfl)) (po_some (pe_ix (ix_listK (K := K)) (pv 9) (pv 12) (fun _ _ => rfl))) (po_some (pe_ix (ix_listK (K := K)) (pv 8) (pv 12) (fun _ _ => rfl)))))
        (pss_one (ps_if (pt_not (pt_val (pe_call F_law_asked hr rfl T.g_law_asked k_law_asked b_law_asked .nil pass0 (pa_cons (pv 5) (pa_cons (pe_ix (ix_listK (K := K)) (pv 6) (pv 12) (fun _ _ => rfl)) (pa_cons (pv 15) (pa_cons (pv 2) pa_nil)))))))
         (pss_one (ps_ret pe_bl)) pss_nil))))
      (pss_one (ps_ret pe_bl)))))))))))))), ?_⟩
  obtain ⟨a, sc, rfl, hS, q⟩ := h
  refine q_asgT2G (P := fun H v H2 => ∃ (t rl tb : Addr) (ns : List Int) (tab : List Kd), v = .ref t ∧ H2 t = some (.tup [.ref rl, .ref tb]) ∧ H rl = none ∧ H2 rl = some (.lst (ns.map V.int)) ∧ cellsOk ns ∧ ns.length ≤ 20 ∧ H tb = none ∧ RowsN K H2 tb (tab.map kindV) ∧ tabOk tab) (eg_call (ea_cons (ev_var rfl) (ea_cons ev_c (ea_cons ev_c (ea_cons ev_c ea_nil)))) (fun H1 e Q k E => ⟨a, sc, rfl, ex_l e hS, fun t rl tb ns tab H2 e2 h1 h2 h3 h4 h5 h6 h7 h8 => k _ H2 e2 ⟨t, rl, tb, ns, tab, rfl, h1, h2, h3, h4, h5, h6, h7, h8⟩⟩) fun _ _ _ _ e p => ?_) fun v H1 e1 p1 => ?_
  · obtain ⟨t, rl, tb, ns, tab, h0, h1, h2, h3, h4, h5, h6, h7⟩ := p
    exact ⟨t, rl, tb, ns, tab, h0, h1, fresh_back e h2, h3, h4, h5, fresh_back e h6, h7⟩
  obtain ⟨t, fi, tb, r0, tab, rfl, ht, hfi, h1f, hc0, hl0, htb, hB1, hT⟩ := p1
  refine ⟨t, rfl, _, _, st_of ht, ?_⟩
  refine q_asgG (eg_call4Z (P := fun H v H2 => ∃ ns, NewL (ns.map V.int) H v H2 ∧ cellsOk ns ∧ ns.length ≤ 20) (Pz := fun z => 1 ≤ z ∧ z ≤ 100000000000000000) (ev_var rfl) ev_c ev_c (eg_callZ (Pz := fun z => 1 ≤ z ∧ z ≤ 100000000000000000) (ea_cons (ev_var rfl) (ea_cons ev_c (ea_cons ev_c ea_nil))) fun H2 e2 Q k E => ⟨a, sc, rfl, ex_l (e1.trans e2) hS, fun f H3 f0 f1 e3 => k f H3 ⟨f0, f1⟩ e3⟩) (fun f H2 hf e2 H3 e3 Q k E => ⟨a, 2, f, sc, rfl, ex_l (e1.trans (e2.trans e3)) hS, by decide, by decide, hf.1, hf.2, k⟩) fun _ _ _ _ e p => ?_) fun v H2 e2 p2 => ?_
  · obtain ⟨ns, h, hd⟩ := p
    exact ⟨ns, newL_back _ _ _ _ e h, hd⟩
  obtain ⟨r1, ⟨se, rfl, hse, h2s⟩, hc1, hl1⟩ := p2
  refine q_asgG (eg_call3L (P := fun H v H2 => ∃ zs, NewL (zs.map V.int) H v H2 ∧ Drawn lawSz zs) (ev_var rfl) ev_c (el_is (ys := lawSz.map V.int) (el_catNN (el_lst (ea_cons ev_c ea_nil) (by decide)) (el_repN (el_lst (ea_cons ev_c (ea_cons ev_c (ea_cons ev_c ea_nil))) (by decide)) ev_c (by decide) (by decide)) (by decide)) rfl) (fun pz H3 e3 h3 H4 e4 Q k E => ⟨a, pz, 3, sc, lawSz, rfl, ex_l ((e1.trans e2).trans (e3.trans e4)) hS, sq_of (e4 _ _ h3), by decide, by decide, by decide, by decide, k⟩) fun _ _ _ _ e p => ?_) fun v H3 e3 p3 => ?_
  · obtain ⟨ns, h, hd⟩ := p
    exact ⟨ns, newL_back _ _ _ _ e h, hd⟩
  obtain ⟨zs, ⟨sm, rfl, hsm, h3m⟩, hDr⟩ := p3
  refine q_asgG eg_desk fun v H4 e4 p4 => ?_
  obtain ⟨d, own0, rfl, D4, hf4⟩ := p4
  have e34 := e4
  have notin : ∀ {x : Addr} {o : HO}, H3 x = some o → x ∉ own0 := fun h m => by
    have := hf4 _ m
    rw [h] at this
    cases this
  have e24 := e3.trans e4
  have e14 := e2.trans e24
  have B4 := hB1.mono e14
  have nB0 : tb ∉ own0 := by
    obtain ⟨ts, h, _⟩ := hB1
    exact notin (e3 _ _ (e2 _ _ h))
  have nS0 : sm ∉ own0 := notin h3m
  have nf0 : fi ∉ own0 := notin (e3 _ _ (e2 _ _ h1f))
  have ns0 : se ∉ own0 := notin (e3 _ _ h2s)
  have tab0 : tabOk [] := ⟨by decide, by simp, by simp⟩
  have lT : lineIs (("table " : Str) ++ tabLine tab) (.table tab) := line_table (by decide +kernel)
  have lTl := Req.lineLen (r := .table tab) hT lT
  rw [app_len] at lTl
  refine q_said (r := .table tab) (a := "ok") (ev_var rfl) (ev_op ev_c (ev_call (ea_cons (ev_var rfl) ea_nil) fun H5 e5 Q k E => ⟨tb, tab, rfl, (B4.mono e5).l, hT, k⟩) (rv_adds (by omega))) (el_lst (ea_cons ev_c ea_nil) (by decide)) lT hT D4 (by decide +kernel) tab0 (fun s h => nomatch h) rfl fun own1 H5 D5 p5 => ?_
  have B5 := D4.rows p5.1 B4 nB0
  have m5 := p5.1 _ _ (e4 _ _ h3m) nS0
  have f5 := p5.1 _ _ (e14 _ _ h1f) nf0
  have s5 := p5.1 _ _ (e24 _ _ h2s) ns0
  have nB1 : tb ∉ own1 := by
    obtain ⟨ts, h, _⟩ := B4
    exact p5.out h nB0
  have nS1 := p5.out (e4 _ _ h3m) nS0
  have nf1 := p5.out (e14 _ _ h1f) nf0
  have ns1 := p5.out (e24 _ _ h2s) ns0
  refine q_asgL (el_lst (ea_cons ev_c (ea_cons ev_c ea_nil)) (by decide)) fun nm H6 hnm e6 h6 => ?_
  refine q_asgL (el_lst (ea_cons (ev_var rfl) (ea_cons (ev_var rfl) ea_nil)) (by show 2 ≤ 100000; decide)) fun rls H7 hrls e7 h7 => ?_
  refine q_asgL (el_lst (ea_cons ev_c (ea_cons ev_c ea_nil)) (by decide)) fun tk H8 htk e8 h8 => ?_
  refine q_asgL (el_lst (ea_cons ev_c (ea_cons ev_c ea_nil)) (by decide)) fun bg H9 hbg e9 h9 => ?_
  have e56 := e6
  have e57 := e6.trans e7
  have e58 := e57.trans e8
  have e59 := e58.trans e9
  have D6 := D5.mono e6
  have D7 := D5.mono e57
  have D8 := D5.mono e58
  have D9 := D5.mono e59
  have L9 : LH K H9 tb sm nm rls tk bg (fun w => if w = 0 then fi else se) own1 tab zs (fun w => if w = 0 then r0 else r1) (fun _ => 0) (fun _ => 0) := by
    obtain ⟨ts, hb5, _⟩ := id B5
    refine ⟨B5.mono e59, e59 _ _ m5, ((e7.trans e8).trans e9) _ _ h6, (e8.trans e9) _ _ h7, fun w hw => ?_, e9 _ _ h8, h9, ⟨nB1, nS1, D5.fresh hnm, D6.fresh hrls, fun w hw => ?_, D7.fresh htk, D8.fresh hbg⟩, ⟨ne_of_none (e57 _ _ hb5) htk, ne_of_none (e57 _ _ m5) htk, ne_of_none (e7 _ _ h6) htk, ne_of_none h7 htk, fun w hw => ?_, (ne_of_none h8 hbg).symm⟩, ⟨ne_of_none (e58 _ _ hb5) hbg, ne_of_none (e58 _ _ m5) hbg, ne_of_none ((e7.trans e8) _ _ h6) hbg, ne_of_none (e8 _ _ h7) hbg, fun w hw => ?_⟩⟩
    · have : w = 0 ∨ w = 1 := by omega
      rcases this with rfl | rfl
      · exact e59 _ _ f5
      · exact e59 _ _ s5
    · have : w = 0 ∨ w = 1 := by omega
      rcases this with rfl | rfl
      · exact nf1
      · exact ns1
    · have : w = 0 ∨ w = 1 := by omega
      rcases this with rfl | rfl
      · exact ne_of_none (e57 _ _ f5) htk
      · exact ne_of_none (e57 _ _ s5) htk
    · have : w = 0 ∨ w = 1 := by omega
      rcases this with rfl | rfl
      · exact ne_of_none (e58 _ _ f5) hbg
      · exact ne_of_none (e58 _ _ s5) hbg
  have hcr : ∀ w < 2, cellsOk ((fun w => if w = 0 then r0 else r1) w) ∧ ((fun w => if w = 0 then r0 else r1) w).length ≤ 20 := fun w hw => by
    have : w = 0 ∨ w = 1 := by omega
    rcases this with rfl | rfl
    · exact ⟨hc0, hl0⟩
    · exact ⟨hc1, hl1⟩
  generalize (fun w => if w = 0 then fi else se) = ra at L9
  generalize (fun w => if w = 0 then r0 else r1) = r at L9 hcr
  -- the two feeds are begun
  refine q_forLn (ev_var rfl) (sq_of L9.hn) (fun i σ' H' => ∃ (w10 : Option V) (own : List Addr), σ' = [some (.ref a), some (.ref fi), some (.ref tb), some (.ref se), some (.ref sm), some (.ref d), some (.ref nm), some (.ref rls), some (.ref tk), some (.ref bg), w10, none, none, none, none, none, none] ∧ DeskA K H' d own ((List.range i).map fun w => (nmS w, ⟨[], 0, false⟩)) tab ∧ LH K H' tb sm nm rls tk bg ra own tab zs r (fun _ => 0) (fun _ => 0)) ?_ ?_ ?_ ?_
  · exact fun H10 e10 => ⟨none, own1, rfl, D9.mono e10, L9.ex e10⟩
  · rintro i σ' H' _ ⟨w10, own, rfl, D', L'⟩
    exact sq_of L'.hn
  · rintro i x σ' H10 hi ⟨w10, own, rfl, D10, L10⟩
    have hi2 : i < 2 := lt_of_get hi
    have ex : x = .str (nmS i) := Option.some.inj (hi.symm.trans (two_at (fun w => V.str (nmS w)) hi2))
    subst ex
    have hg : DS.get ((List.range i).map fun w => (nmS w, ⟨[], 0, false⟩)) (nmS i) = none := by
      have : i = 0 ∨ i = 1 := by omega
      rcases this with rfl | rfl
      · rfl
      · decide +kernel
    have hnl : (nmS i).length ≤ 8 := by rw [len_tl]; exact (nmS_ok i).2.1
    refine s_said (r := .word "begin" (nmS i)) (a := "ok") (ev_var rfl) (ev_op ev_c (ev_var rfl) (rv_adds ?_)) (el_lst (ea_cons ev_c ea_nil) (by decide)) (line_word (by decide +kernel)) ⟨by decide +kernel, nmS_ok i⟩ D10 (by decide +kernel) hT (fun s h => absurd (hg.symm.trans h) (by simp)) (stepD_begin hg (by rw [List.length_map, List.length_range]; omega)) fun own' H11 D11 p11 => ?_
    · have h1 : ("begin " : Str).length = 6 := by decide +kernel
      omega
    · refine ⟨_, own', rfl, ?_, L10.pass D10 p11⟩
      rw [List.range_succ, List.map_append]
      exact D11
  rintro σ' H10 ⟨w10, own2, rfl, D10, L10⟩
  have F10 : Feeds ((List.range 2).map fun w => (nmS w, ⟨[], 0, false⟩)) r (fun _ => 0) (fun _ => 0) := by
    refine ⟨by decide, fun w hw => ⟨⟨0, ?_⟩, Nat.le_refl _, Nat.zero_le _⟩⟩
    rw [seg_self]
    have e : ((List.range 2).map fun w => (nmS w, (⟨[], 0, false⟩ : FeedSt))) = ([] ++ [(nmS 0, (⟨[], 0, false⟩ : FeedSt))]) ++ [(nmS 1, (⟨[], 0, false⟩ : FeedSt))] := rfl
    rw [e, get_add, get_add]
    have : w = 0 ∨ w = 1 := by omega
    rcases this with rfl | rfl
    · rw [if_pos rfl]
      rfl
    · rw [if_neg (nmS_ne (by decide) (by decide) (by decide)), if_pos rfl]
      rfl
  have D10' : DeskA K H10 d own2 ((List.range 2).map fun w => (nmS w, ⟨[], 0, false⟩)) tab := D10
  generalize ((List.range 2).map fun w => (nmS w, (⟨[], 0, false⟩ : FeedSt))) = A10 at F10 D10'
  obtain ⟨x0, gx0, lx0, ux0⟩ := hDr.at_ (j := 0) (s := 14) rfl
  -- by turns
  refine q_forR1 (n := 14) (ea_cons ev_c ea_nil) (by decide) (fun i σ' H' => ∃ (w10 w11 w12 w13 w14 w15 w16 : Option V) (own : List Addr) (A : DS) (b t : Nat → Nat), σ' = [some (.ref a), some (.ref fi), some (.ref tb), some (.ref se), some (.ref sm), some (.ref d), some (.ref nm), some (.ref rls), some (.ref tk), some (.ref bg), w10, w11, w12, w13, w14, w15, w16] ∧ DeskA K H' d own A tab ∧ LH K H' tb sm nm rls tk bg ra own tab zs r b t ∧ Feeds A r b t) ?_ ?_ ?_
  · exact fun H11 e11 => ⟨w10, none, none, none, none, none, none, own2, A10, _, _, rfl, D10'.mono e11, L10.ex e11, F10⟩
  · rintro i σ' H11 hi ⟨w10, w11, w12, w13, w14, w15, w16, own, A, b, t, rfl, D11, L11, F11⟩
    have hi14 : i < 14 := by omega
    obtain ⟨t1, t2, t3⟩ := lawSz_k i hi14
    obtain ⟨zw, gzw, lzw, uzw⟩ := hDr.at_ t1
    obtain ⟨zc, gzc, lzc, uzc⟩ := hDr.at_ t2
    obtain ⟨za, gza, lza, uza⟩ := hDr.at_ t3
    obtain ⟨w, rfl⟩ : ∃ w : Nat, zw = (w : Int) := ⟨zw.toNat, by omega⟩
    obtain ⟨c, rfl⟩ : ∃ c : Nat, zc = (c : Int) := ⟨zc.toNat, by omega⟩
    have hw : w < 2 := by omega
    obtain ⟨hg0, hbt, htl⟩ := F11.2 w hw
    obtain ⟨k0, hg⟩ := hg0
    obtain ⟨hcw, hlw⟩ := hcr w hw
    -- which, count, ask
    refine q_asgU3 (w1 := .int (w : Int)) (w2 := .int (c : Int)) (w3 := .int za) (el_is (el_sl (lo := some ((3 * i + 1 : Nat) : Int)) (hi := some ((3 * i + 4 : Nat) : Int)) (ev_var rfl) (eo_some (ev_is (ev_op ev_c (ev_op ev_c (ev_var rfl) (rv_I (cmul (by omega) (by omega)))) rv_I0) (congrArg V.int (by omega)))) (eo_some (ev_is (ev_op ev_c (ev_op ev_c (ev_var rfl) (rv_I (cmul (by omega) (by omega)))) rv_I0) (congrArg V.int (by omega)))) (sq_of L11.hs)) ?_) fun H12 e12 => ?_
    · have e3 : 3 * i + 4 - (3 * i + 1) = 3 := by omega
      rw [cutV_natM, e3, three_at gzw gzc gza]
      rfl
    have L12 := L11.ex e12
    refine q_asg (v := .str (nmS w)) (ev_op (ev_var rfl) (ev_var rfl) (rv_ixL (sq_of L12.hn) (two_atI (f := fun w => V.str (nmS w)) hw))) fun H13 e13 => ?_
    have L13 := L12.ex e13
    refine q_asgL (xs := (seg (r w) (b w) (t w)).map V.int) (el_is (el_sl (lo := some ((b w : Nat) : Int)) (hi := some ((t w : Nat) : Int)) (ev_op (ev_var rfl) (ev_var rfl) (rv_ixL (sq_of L13.hr) (two_atI (f := fun w => V.ref (ra w)) hw))) (eo_some (ev_op (ev_var rfl) (ev_var rfl) (rv_ixL (sq_of L13.hb) (two_atI (f := fun w => V.int ((b w : Nat) : Int)) hw)))) (eo_some (ev_op (ev_var rfl) (ev_var rfl) (rv_ixL (sq_of L13.ht) (two_atI (f := fun w => V.int ((t w : Nat) : Int)) hw)))) (sq_of (L13.ha w hw))) (cutV_natM _ _ _ _)) fun ro H14 hro e14 hR => ?_
    have L14 := L13.ex e14
    refine q_asgL (xs := (((r w).drop (t w)).take c).map V.int) (el_is (el_sl (lo := some ((t w : Nat) : Int)) (hi := some ((t w + c : Nat) : Int)) (ev_op (ev_var rfl) (ev_var rfl) (rv_ixL (sq_of L14.hr) (two_atI (f := fun w => V.ref (ra w)) hw))) (eo_some (ev_op (ev_var rfl) (ev_var rfl) (rv_ixL (sq_of L14.ht) (two_atI (f := fun w => V.int ((t w : Nat) : Int)) hw)))) (eo_some (ev_is (ev_op (ev_op (ev_var rfl) (ev_var rfl) (rv_ixL (sq_of L14.ht) (two_atI (f := fun w => V.int ((t w : Nat) : Int)) hw))) (ev_var rfl) rv_I0) (congrArg V.int (by omega)))) (sq_of (L14.ha w hw))) (by rw [cutV_natM, Nat.add_sub_cancel_left])) fun mo H15 hmo e15 hM => ?_
    have L15 := L14.ex e15
    have e1315 := e14.trans e15
    have e1115 := (e12.trans e13).trans e1315
    have D13 := D11.mono (e12.trans e13)
    have D14 := D13.mono e14
    have D15 := D11.mono e1115
    have nro : ro ∉ own := D13.fresh hro
    have nmo : mo ∉ own := D14.fresh hmo
    have hR15 := e15 _ _ hR
    have nrt : ro ≠ tk := (ne_of_none L13.ht hro).symm
    have nmt : mo ≠ tk := (ne_of_none L14.ht hmo).symm
    have hml : (((r w).drop (t w)).take c).length ≤ (r w).length - t w := by
      rw [List.length_take, List.length_drop]
      exact Nat.min_le_right _ _
    have hmc : cellsOk (((r w).drop (t w)).take c) := ⟨by omega, fun x hx => hcw.2 x (List.mem_of_mem_drop (List.mem_of_mem_take hx))⟩
    have hsl := seg_len (b := b w) htl
    have hsa := seg_add (c := c) hbt htl
    generalize hmore : ((r w).drop (t w)).take c = more at hM hml hmc hsa
    -- take
    refine q_notC (t_callA (ea_cons (ev_var rfl) (ea_cons (ev_var rfl) (ea_cons (ev_var rfl) (ea_cons (ev_var rfl) (ea_cons (ev_var rfl) ea_nil))))) fun H16 e16 => ?_)
    have L16 := L15.ex e16
    have D16 := D15.mono e16
    refine ⟨d, ro, mo, tb, nmS w, own, A, tab, _, more, rfl, D16, hT, nmS_ok w, hg, rfl, e16 _ _ hR15, nro, e16 _ _ hM, nmo, L16.hB, L16.no.1, hmc, by show (seg (r w) (b w) (t w)).length + _ ≤ 200; omega, fun own3 H17 D17 p17 => kn ?_⟩
    have L17 := L16.pass D16 p17
    have hR17 := p17.1 _ _ (e16 _ _ hR15) nro
    have hM17 := p17.1 _ _ (e16 _ _ hM) nmo
    have nro3 := p17.out (e16 _ _ hR15) nro
    have nmo3 := p17.out (e16 _ _ hM) nmo
    have hg1 := get_put_same (s' := ⟨seg (r w) (b w) (t w) ++ more, (sure (seg (r w) (b w) (t w) ++ more) tab).length, false⟩) hg
    have hA1l := len_put A (nmS w) ⟨seg (r w) (b w) (t w) ++ more, (sure (seg (r w) (b w) (t w) ++ more) tab).length, false⟩
    have hA1o : ∀ v < 2, v ≠ w → (A.put (nmS w) ⟨seg (r w) (b w) (t w) ++ more, (sure (seg (r w) (b w) (t w) ++ more) tab).length, false⟩).get (nmS v) = A.get (nmS v) := fun v hv hn => by rw [get_put, if_neg (nmS_ne hv hw hn)]
    have D17' : DeskA K H17 d own3 (A.put (nmS w) ⟨seg (r w) (b w) (t w) ++ more, (sure (seg (r w) (b w) (t w) ++ more) tab).length, false⟩) tab := D17
    generalize (sure (seg (r w) (b w) (t w) ++ more) tab).length = k1 at hg1 hA1l hA1o D17'
    generalize A.put (nmS w) ⟨seg (r w) (b w) (t w) ++ more, k1, false⟩ = A1 at hg1 hA1l hA1o D17'
    -- taken
    refine q_setL (j := w) (v := .int ((t w + more.length : Nat) : Int)) L17.ht (ev_is (ev_op (ev_op (ev_var rfl) (ev_var rfl) (rv_ixL (sq_of L17.ht) (two_atI (f := fun w => V.int ((t w : Nat) : Int)) hw))) (ev_len (ev_var rfl) (sq_of hM17)) rv_I0) (congrArg V.int (by rw [List.length_map]; omega))) (ev_var rfl) (ev_var rfl) hw fun H18 e18 => ?_
    have et : (two fun w => V.int ((t w : Nat) : Int)).set w (.int ((t w + more.length : Nat) : Int)) = two fun j => V.int (((if j = w then t w + more.length else t j : Nat)) : Int) := by
      rw [two_set _ hw]
      refine congrArg two (funext fun j => ?_)
      split <;> rfl
    rw [et]
    have L18 := (L17.ex e18).setT (fun j => if j = w then t w + more.length else t j)
    have D18 := DeskA.upd (o := .lst (two fun j => V.int (((if j = w then t w + more.length else t j : Nat)) : Int))) (D17'.mono e18) (e18 _ _ L17.ht) L17.no.2.2.2.2.2.1
    have hR18 : (upd H18 tk (.lst (two fun j => V.int (((if j = w then t w + more.length else t j : Nat)) : Int)))) ro = some (.lst ((seg (r w) (b w) (t w)).map V.int)) := by rw [upd_ne nrt]; exact e18 _ _ hR17
    have hM18 : (upd H18 tk (.lst (two fun j => V.int (((if j = w then t w + more.length else t j : Nat)) : Int)))) mo = some (.lst (more.map V.int)) := by rw [upd_ne nmt]; exact e18 _ _ hM17
    generalize upd H18 tk (.lst (two fun j => V.int (((if j = w then t w + more.length else t j : Nat)) : Int))) = G18 at L18 D18 hR18 hM18 ⊢
    have hcat : ∀ {Hx : Hp} {σ' : L2.St} {t1 t2 : TE}, Ev t1 σ' Hx (.ref ro) → Ev t2 σ' Hx (.ref mo) → Hx ro = some (.lst ((seg (r w) (b w) (t w)).map V.int)) → Hx mo = some (.lst (more.map V.int)) → EvL (tOp rCat t1 t2) σ' Hx ((seg (r w) (b w) (t w) ++ more).map V.int) := fun h1 h2 h3 h4 => el_is (el_cat h1 h2 h3 h4 (by rw [List.length_map, List.length_map]; omega)) (by rw [List.map_append])
    -- asked
    refine q_andNot (b := decide (za > 0)) (fun H' => ∃ own, DeskA K H' d own A1 tab ∧ LH K H' tb sm nm rls tk bg ra own tab zs r b (fun j => if j = w then t w + more.length else t j) ∧ H' ro = some (.lst ((seg (r w) (b w) (t w)).map V.int)) ∧ ro ∉ own ∧ H' mo = some (.lst (more.map V.int)) ∧ mo ∉ own) (et_test (ev_op (ev_var rfl) ev_c rv_I0)) (fun _ H19 e19 => ⟨own3, D18.mono e19, L18.ex e19, e19 _ _ hR18, nro3, e19 _ _ hM18, nmo3⟩) (fun Kc hK _ H19 e19 => ?_) fun H20 m20 => ?_
    · have hR19 := e19 _ _ hR18
      have hM19 := e19 _ _ hM18
      refine t_call4L (ev_var rfl) (ev_var rfl) (hcat (ev_var rfl) (ev_var rfl) hR19 hM19) (ev_var rfl) fun pl HA HB eA hpl eB hB => ?_
      have e1B := e19.trans (eA.trans eB)
      have DB := D18.mono e1B
      have LB := L18.ex e1B
      refine ⟨d, pl, tb, nmS w, own3, A1, tab, _, rfl, DB, hT, nmS_ok w, hg1, rfl, hB, (D18.mono (e19.trans eA)).fresh hpl, LB.hB, LB.no.1, fun own4 HC DC pC => hK HC ?_⟩
      exact ⟨own4, DC, LB.pass DB pC, pC.1 _ _ (e1B _ _ hR18) nro3, pC.out (e1B _ _ hR18) nro3, pC.1 _ _ (e1B _ _ hM18) nmo3, pC.out (e1B _ _ hM18) nmo3⟩
    obtain ⟨own4, D20, L20, hR20, nro4, hM20, nmo4⟩ := m20
    have F1 : Feeds A1 r b (fun j => if j = w then t w + more.length else t j) := by
      refine ⟨by rw [hA1l]; exact F11.1, fun v hv => ?_⟩
      by_cases hvw : v = w
      · subst hvw
        simp only [if_pos]
        exact ⟨⟨k1, by rw [hg1, hsa]⟩, by omega, by omega⟩
      · simp only [if_neg hvw]
        obtain ⟨h1, h2⟩ := F11.2 v hv
        exact ⟨by rw [hA1o v hv hvw]; exact h1, h2⟩
    -- closed
    refine s_when (b := decide ((i : Int) = x0)) (et_is (et_test (ev_op (ev_var rfl) (ev_op (ev_var rfl) ev_c (rv_ixL (sq_of L20.hs) (at_int (j := 0) rfl gx0))) (rv_eq rfl))) (by simp)) (fun _ H21 e21 => ?_) fun _ H21 e21 => ⟨_, _, _, _, _, _, _, own4, A1, b, _, rfl, D20.mono e21, L20.ex e21, F1⟩
    refine q_notC (t_call4L (ev_var rfl) (ev_var rfl) (hcat (ev_var rfl) (ev_var rfl) (e21 _ _ hR20) (e21 _ _ hM20)) (ev_var rfl) fun pl HA HB eA hpl eB hB => ?_)
    have e2B := e21.trans (eA.trans eB)
    have DB := D20.mono e2B
    have LB := L20.ex e2B
    refine ⟨d, pl, tb, nmS w, own4, A1, tab, _, rfl, DB, hT, nmS_ok w, hg1, rfl, hB, (D20.mono (e21.trans eA)).fresh hpl, LB.hB, LB.no.1, F1.1, by show (seg (r w) (b w) (t w) ++ more).length + 2 ≤ 200; rw [List.length_append]; omega, fun own5 HC DC pC => kn ?_⟩
    have LC := LB.pass DB pC
    refine s_setL (j := w) (v := .int ((t w + more.length : Nat) : Int)) LC.hb (ev_is (ev_op (ev_var rfl) (ev_var rfl) (rv_ixL (sq_of LC.ht) (two_atI (f := fun j => V.int (((if j = w then t w + more.length else t j : Nat)) : Int)) hw))) (by rw [if_pos rfl])) (ev_var rfl) (ev_var rfl) hw fun HD eD => ?_
    have eb : (two fun w => V.int ((b w : Nat) : Int)).set w (.int ((t w + more.length : Nat) : Int)) = two fun j => V.int (((if j = w then t w + more.length else b j : Nat)) : Int) := by
      rw [two_set _ hw]
      refine congrArg two (funext fun j => ?_)
      split <;> rfl
    rw [eb]
    refine ⟨_, _, _, _, _, _, _, own5, _, (fun j => if j = w then t w + more.length else b j), _, rfl, DeskA.upd (DC.mono eD) (eD _ _ LC.hb) LC.no.2.2.2.2.2.2, (LC.ex eD).setB _, ?_, fun v hv => ?_⟩
    · have := len_cut hg1
      have h12 := F1.1
      rw [List.length_append, List.length_singleton]
      omega
    · by_cases hvw : v = w
      · subst hvw
        simp only [if_pos]
        refine ⟨⟨0, ?_⟩, Nat.le_refl _, by omega⟩
        rw [seg_self, get_add, get_cut, if_pos rfl, if_pos rfl]
        rfl
      · simp only [if_neg hvw]
        obtain ⟨h1, h2⟩ := F11.2 v hv
        obtain ⟨k2, h1⟩ := h1
        refine ⟨⟨k2, ?_⟩, h2⟩
        rw [get_add, get_cut, if_neg (nmS_ne hv hw hvw), hA1o v hv hvw, h1]
        rfl
  · rintro σ' H11 ⟨w10, w11, w12, w13, w14, w15, w16, own, A, b, t, rfl, D11, L11, F11⟩
    refine q_forR1 (n := 2) (ea_cons ev_c ea_nil) (by decide) (fun i σ' H' => ∃ (w12 w15 : Option V) (own : List Addr), σ' = [some (.ref a), some (.ref fi), some (.ref tb), some (.ref se), some (.ref sm), some (.ref d), some (.ref nm), some (.ref rls), some (.ref tk), some (.ref bg), w10, w11, w12, w13, w14, w15, w16] ∧ DeskA K H' d own A tab ∧ LH K H' tb sm nm rls tk bg ra own tab zs r b t) ?_ ?_ ?_
    · exact fun H12 e12 => ⟨w12, w15, own, rfl, D11.mono e12, L11.ex e12⟩
    · rintro w σ' H13 hi ⟨w12, w15, own, rfl, D13, L13⟩
      have hw : w < 2 := by omega
      obtain ⟨hg0, hbt, htl⟩ := F11.2 w hw
      obtain ⟨k0, hg⟩ := hg0
      refine q_asgL (xs := (seg (r w) (b w) (t w)).map V.int) (el_is (el_sl (lo := some ((b w : Nat) : Int)) (hi := some ((t w : Nat) : Int)) (ev_op (ev_var rfl) (ev_var rfl) (rv_ixL (sq_of L13.hr) (two_atI (f := fun w => V.ref (ra w)) hw))) (eo_some (ev_op (ev_var rfl) (ev_var rfl) (rv_ixL (sq_of L13.hb) (two_atI (f := fun w => V.int ((b w : Nat) : Int)) hw)))) (eo_some (ev_op (ev_var rfl) (ev_var rfl) (rv_ixL (sq_of L13.ht) (two_atI (f := fun w => V.int ((t w : Nat) : Int)) hw)))) (sq_of (L13.ha w hw))) (cutV_natM _ _ _ _)) fun ro H14 hro e14 hR => ?_
      have L14 := L13.ex e14
      refine s_notC (t_callA (ea_cons (ev_var rfl) (ea_cons (ev_op (ev_var rfl) (ev_var rfl) (rv_ixL (sq_of L14.hn) (two_atI (f := fun w => V.str (nmS w)) hw))) (ea_cons (ev_var rfl) (ea_cons (ev_var rfl) ea_nil)))) fun H15 e15 => ?_)
      have e1315 := e14.trans e15
      have D15 := D13.mono e1315
      have L15 := L13.ex e1315
      exact ⟨d, ro, tb, nmS w, own, A, tab, _, rfl, D15, hT, nmS_ok w, hg, rfl, e15 _ _ hR, D13.fresh hro, L15.hB, L15.no.1, fun own' H' D' p => knS ⟨_, _, own', rfl, D', L15.pass D15 p⟩⟩
    · rintro σ' H12 ⟨w12, w15, own, rfl, D12, L12⟩
      exact s_ret ev_c fun H13 e13 => q H13
end Sv
namespace Sv
open PySem PySem.Spec PyProof.Rows L2 Evl Hd
theorem top_of {K : PySem.W.Frag} {h : Heap} {mg : Str → Option Value} (X : K.In h) (G : h.Ns mainGlobals mg) (c : obsS K = valS) : Top K mg := by
  have c1 : He.SaysD fa fn K := congrArg Prod.fst c
  have c2 : ex K = true := congrArg Prod.snd c
  have c3 : (((He.tupB K "ROLL_WORDS" v_ROLL_WORDS = true ∧ He.tupB K "NUMBER_ROLL_WORDS" v_NUMBER_ROLL_WORDS = true) ∧ He.tupB K "NAME_WORDS" v_NAME_WORDS = true) ∧ He.tupB K "LONE_WORDS" v_LONE_WORDS = true) := by simpa [ex] using c2
  obtain ⟨⟨⟨u1, u2⟩, u3⟩, u4⟩ := c3
  exact {
    g_running_sums := He.glo_ok X G (c1.fact 0 (f := .glo "running_sums") rfl),
    g_ends_well := He.glo_ok X G (c1.fact 1 (f := .glo "ends_well") rfl),
    g_heights := He.glo_ok X G (c1.fact 2 (f := .glo "heights") rfl),
    g_last_kind := He.glo_ok X G (c1.fact 3 (f := .glo "last_kind") rfl),
    g_cutting_told := He.glo_ok X G (c1.fact 4 (f := .glo "cutting_told") rfl),
    g_best := He.glo_ok X G (c1.fact 5 (f := .glo "best") rfl),
    g_checked_roll := He.glo_ok X G (c1.fact 6 (f := .glo "checked_roll") rfl),
    g_steps_back := He.glo_ok X G (c1.fact 7 (f := .glo "steps_back") rfl),
    g_meeting_place := He.glo_ok X G (c1.fact 8 (f := .glo "meeting_place") rfl),
    g_good_name := He.glo_ok X G (c1.fact 9 (f := .glo "good_name") rfl),
    g_good_kind := He.glo_ok X G (c1.fact 10 (f := .glo "good_kind") rfl),
    g_fault := He.glo_ok X G (c1.fact 11 (f := .glo "fault") rfl),
    g_show_cutting := He.glo_ok X G (c1.fact 12 (f := .glo "show_cutting") rfl),
    g_read_whole := He.glo_ok X G (c1.fact 13 (f := .glo "read_whole") rfl),
    g_read_name := He.glo_ok X G (c1.fact 14 (f := .glo "read_name") rfl),
    g_read_numbers := He.glo_ok X G (c1.fact 15 (f := .glo "read_numbers") rfl),
    g_read_kind := He.glo_ok X G (c1.fact 16 (f := .glo "read_kind") rfl),
    g_read_table := He.glo_ok X G (c1.fact 17 (f := .glo "read_table") rfl),
    g_read_roll := He.glo_ok X G (c1.fact 18 (f := .glo "read_roll") rfl),
    g_read_line := He.glo_ok X G (c1.fact 19 (f := .glo "read_line") rfl),
    g_law_cell := He.glo_ok X G (c1.fact 20 (f := .glo "_law_cell") rfl),
    g_law_mix := He.glo_ok X G (c1.fact 21 (f := .glo "_law_mix") rfl),
    g_law_row := He.glo_ok X G (c1.fact 22 (f := .glo "_law_row") rfl),
    g_law_table := He.glo_ok X G (c1.fact 23 (f := .glo "_law_table") rfl),
    g_law_flaw := He.glo_ok X G (c1.fact 24 (f := .glo "_law_flaw") rfl),
    g_law_roll := He.glo_ok X G (c1.fact 25 (f := .glo "_law_roll") rfl),
    g_law_drawn := He.glo_ok X G (c1.fact 26 (f := .glo "_law_drawn") rfl),
    g_law_sums := He.glo_ok X G (c1.fact 27 (f := .glo "_law_sums") rfl),
    g_law_good := He.glo_ok X G (c1.fact 28 (f := .glo "_law_good") rfl),
    g_law_heights := He.glo_ok X G (c1.fact 29 (f := .glo "_law_heights") rfl),
    g_law_back := He.glo_ok X G (c1.fact 30 (f := .glo "_law_back") rfl),
    g_law_cut := He.glo_ok X G (c1.fact 31 (f := .glo "_law_cut") rfl),
    g_law_starts := He.glo_ok X G (c1.fact 32 (f := .glo "_law_starts") rfl),
    g_law_stops := He.glo_ok X G (c1.fact 33 (f := .glo "_law_stops") rfl),
    g_law_settled := He.glo_ok X G (c1.fact 34 (f := .glo "_law_settled") rfl),
    g_law_line := He.glo_ok X G (c1.fact 35 (f := .glo "_law_line") rfl),
    g_law_table_line := He.glo_ok X G (c1.fact 36 (f := .glo "_law_table_line") rfl),
    g_law_cutting_line := He.glo_ok X G (c1.fact 37 (f := .glo "_law_cutting_line") rfl),
    g_law_said := He.glo_ok X G (c1.fact 38 (f := .glo "_law_said") rfl),
    g_law_sure := He.glo_ok X G (c1.fact 39 (f := .glo "_law_sure") rfl),
    g_law_asked := He.glo_ok X G (c1.fact 40 (f := .glo "_law_asked") rfl),
    g_law_take := He.glo_ok X G (c1.fact 41 (f := .glo "_law_take") rfl),
    g_law_closed := He.glo_ok X G (c1.fact 42 (f := .glo "_law_closed") rfl),
    g_law := He.glo_ok X G (c1.fact 43 (f := .glo "law") rfl),
    g_Feed := He.glo_ok X G (c1.fact 44 (f := .glo "Feed") rfl),
    g_Stock := He.glo_ok X G (c1.fact 45 (f := .glo "Stock") rfl),
    g_Desk := He.glo_ok X G (c1.fact 46 (f := .glo "Desk") rfl),
    g_ROLL_WORDS := He.glo_ok X G (c1.fact 47 (f := .glo "ROLL_WORDS") rfl),
    g_NUMBER_ROLL_WORDS := He.glo_ok X G (c1.fact 48 (f := .glo "NUMBER_ROLL_WORDS") rfl),
    g_NAME_WORDS := He.glo_ok X G (c1.fact 49 (f := .glo "NAME_WORDS") rfl),
    g_LONE_WORDS := He.glo_ok X G (c1.fact 50 (f := .glo "LONE_WORDS") rfl),
    f_len := He.free_ok X G (c1.fact 51 (f := .free "len") rfl),
    f_range := He.free_ok X G (c1.fact 52 (f := .free "range") rfl),
    f_max := He.free_ok X G (c1.fact 53 (f := .free "max") rfl),
    f_min := He.free_ok X G (c1.fact 54 (f := .free "min") rfl),
    f_any := He.free_ok X G (c1.fact 55 (f := .free "any") rfl),
    f_all := He.free_ok X G (c1.fact 56 (f := .free "all") rfl),
    f_str := He.free_ok X G (c1.fact 57 (f := .free "str") rfl),
    f_int := He.free_ok X G (c1.fact 58 (f := .free "int") rfl),
    f_list := He.free_ok X G (c1.fact 59 (f := .free "list") rfl),
    f_enumerate := He.free_ok X G (c1.fact 60 (f := .free "enumerate") rfl),
    f_isinstance := He.free_ok X G (c1.fact 61 (f := .free "isinstance") rfl),
    c_MOST_CELLS_rolls := He.int_ok X G (c1.fact 62 (f := .int "MOST_CELLS_rolls" 200) rfl),
    c_HEAVIEST := He.int_ok X G (c1.fact 63 (f := .int "HEAVIEST" 1000000000000000000) rfl),
    c_LONGEST_NAME := He.int_ok X G (c1.fact 64 (f := .int "LONGEST_NAME" 8) rfl),
    c_MOST_KINDS := He.int_ok X G (c1.fact 65 (f := .int "MOST_KINDS" 8) rfl),
    c_WIDEST := He.int_ok X G (c1.fact 66 (f := .int "WIDEST" 200) rfl),
    c_DEAREST := He.int_ok X G (c1.fact 67 (f := .int "DEAREST" 1000000000000000000) rfl),
    c_MOST_FIGURES := He.int_ok X G (c1.fact 68 (f := .int "MOST_FIGURES" 20) rfl),
    c_MOST_FEEDS := He.int_ok X G (c1.fact 69 (f := .int "MOST_FEEDS" 12) rfl),
    c_LETTERS := He.str_ok X G (c1.fact 70 (f := .str "LETTERS" "abcdefghijklmnopqrstuvwxyz") rfl),
    c_FIGURES := He.str_ok X G (c1.fact 71 (f := .str "FIGURES" "0123456789") rfl),
    cl_Feed := He.cls_ok (c1.fact 72 (f := .cls "Feed") rfl),
    mk_Feed := He.mkr_ok (c1.fact 73 (f := .mkr "Feed") rfl),
    n_Feed_table := He.noat_ok (c1.fact 74 (f := .noat "Feed" "table") rfl),
    n_Feed_came := He.noat_ok (c1.fact 75 (f := .noat "Feed" "came") rfl),
    n_Feed_known := He.noat_ok (c1.fact 76 (f := .noat "Feed" "known") rfl),
    n_Feed_ended := He.noat_ok (c1.fact 77 (f := .noat "Feed" "ended") rfl),
    cl_Stock := He.cls_ok (c1.fact 78 (f := .cls "Stock") rfl),
    mk_Stock := He.mkr_ok (c1.fact 79 (f := .mkr "Stock") rfl),
    n_Stock_kinds := He.noat_ok (c1.fact 80 (f := .noat "Stock" "kinds") rfl),
    n_Stock_shortest := He.noat_ok (c1.fact 81 (f := .noat "Stock" "shortest") rfl),
    n_Stock_stands := He.noat_ok (c1.fact 82 (f := .noat "Stock" "stands") rfl),
    n_Stock_coming := He.noat_ok (c1.fact 83 (f := .noat "Stock" "coming") rfl),
    n_Stock_gained := He.noat_ok (c1.fact 84 (f := .noat "Stock" "gained") rfl),
    n_Stock_parts := He.noat_ok (c1.fact 85 (f := .noat "Stock" "parts") rfl),
    n_Stock_behind := He.noat_ok (c1.fact 86 (f := .noat "Stock" "behind") rfl),
    n_Stock_ahead := He.noat_ok (c1.fact 87 (f := .noat "Stock" "ahead") rfl),
    cl_Desk := He.cls_ok (c1.fact 88 (f := .cls "Desk") rfl),
    mk_Desk := He.mkr_ok (c1.fact 89 (f := .mkr "Desk") rfl),
    n_Desk_kinds := He.noat_ok (c1.fact 90 (f := .noat "Desk" "kinds") rfl),
    n_Desk_store := He.noat_ok (c1.fact 91 (f := .noat "Desk" "store") rfl),
    n_Desk_feeds := He.noat_ok (c1.fact 92 (f := .noat "Desk" "feeds") rfl),
    n_Desk_tellings := He.noat_ok (c1.fact 93 (f := .noat "Desk" "tellings") rfl),
    n_Desk_undone := He.noat_ok (c1.fact 94 (f := .noat "Desk" "undone") rfl),
    m_Feed_still_open := He.meth_ok (c1.fact 95 (f := .meth "Feed" "still_open") rfl),
    m_Feed_fresh := He.meth_ok (c1.fact 96 (f := .meth "Feed" "fresh") rfl),
    m_Feed_take := He.meth_ok (c1.fact 97 (f := .meth "Feed" "take") rfl),
    m_Feed_close := He.meth_ok (c1.fact 98 (f := .meth "Feed" "close") rfl),
    m_Feed_closed := He.meth_ok (c1.fact 99 (f := .meth "Feed" "closed") rfl),
    m_Feed_cells := He.meth_ok (c1.fact 100 (f := .meth "Feed" "cells") rfl),
    m_Feed_cutting := He.meth_ok (c1.fact 101 (f := .meth "Feed" "cutting") rfl),
    m_Feed_is_open := He.meth_ok (c1.fact 102 (f := .meth "Feed" "is_open") rfl),
    m_Feed_open_starts := He.meth_ok (c1.fact 103 (f := .meth "Feed" "open_starts") rfl),
    m_Feed_settled := He.meth_ok (c1.fact 104 (f := .meth "Feed" "settled") rfl),
    m_Feed_sure := He.meth_ok (c1.fact 105 (f := .meth "Feed" "sure") rfl),
    m_Desk_say := He.meth_ok (c1.fact 106 (f := .meth "Desk" "say") rfl),
    m_Desk_begun_anew := He.meth_ok (c1.fact 107 (f := .meth "Desk" "begun_anew") rfl),
    m_Desk_feed_said := He.meth_ok (c1.fact 108 (f := .meth "Desk" "feed_said") rfl),
    m_Desk_feed_lines := He.meth_ok (c1.fact 109 (f := .meth "Desk" "feed_lines") rfl),
    t_ROLL_WORDS := fun H => He.tupB_ok u1 H,
    t_NUMBER_ROLL_WORDS := fun H => He.tupB_ok u2 H,
    t_NAME_WORDS := fun H => He.tupB_ok u3 H,
    t_LONE_WORDS := fun H => He.tupB_ok u4 H,
    d_running_sums := c1.def_ 0 (d := d_running_sums) rfl,
    d_ends_well := c1.def_ 1 (d := d_ends_well) rfl,
    d_heights := c1.def_ 2 (d := d_heights) rfl,
    d_last_kind := c1.def_ 3 (d := d_last_kind) rfl,
    d_cutting_told := c1.def_ 4 (d := d_cutting_told) rfl,
    d_best := c1.def_ 5 (d := d_best) rfl,
    d_checked_roll := c1.def_ 6 (d := d_checked_roll) rfl,
    d_steps_back := c1.def_ 7 (d := d_steps_back) rfl,
    d_meeting_place := c1.def_ 8 (d := d_meeting_place) rfl,
    d_good_name := c1.def_ 9 (d := d_good_name) rfl,
    d_good_kind := c1.def_ 10 (d := d_good_kind) rfl,
    d_fault := c1.def_ 11 (d := d_fault) rfl,
    d_show_cutting := c1.def_ 12 (d := d_show_cutting) rfl,
    d_read_whole := c1.def_ 13 (d := d_read_whole) rfl,
    d_read_name := c1.def_ 14 (d := d_read_name) rfl,
    d_read_numbers := c1.def_ 15 (d := d_read_numbers) rfl,
    d_read_kind := c1.def_ 16 (d := d_read_kind) rfl,
    d_read_table := c1.def_ 17 (d := d_read_table) rfl,
    d_read_roll := c1.def_ 18 (d := d_read_roll) rfl,
    d_read_line := c1.def_ 19 (d := d_read_line) rfl,
    d_Feed_init := c1.def_ 20 (d := d_Feed_init) rfl,
    d_Feed_still_open := c1.def_ 21 (d := d_Feed_still_open) rfl,
    d_Feed_fresh := c1.def_ 22 (d := d_Feed_fresh) rfl,
    d_Feed_take := c1.def_ 23 (d := d_Feed_take) rfl,
    d_Feed_close := c1.def_ 24 (d := d_Feed_close) rfl,
    d_Feed_closed := c1.def_ 25 (d := d_Feed_closed) rfl,
    d_Feed_cells := c1.def_ 26 (d := d_Feed_cells) rfl,
    d_Feed_cutting := c1.def_ 27 (d := d_Feed_cutting) rfl,
    d_Feed_is_open := c1.def_ 28 (d := d_Feed_is_open) rfl,
    d_Feed_open_starts := c1.def_ 29 (d := d_Feed_open_starts) rfl,
    d_Feed_settled := c1.def_ 30 (d := d_Feed_settled) rfl,
    d_Feed_sure := c1.def_ 31 (d := d_Feed_sure) rfl,
    d_Stock_init := c1.def_ 32 (d := d_Stock_init) rfl,
    d_Desk_init := c1.def_ 33 (d := d_Desk_init) rfl,
    d_Desk_say := c1.def_ 34 (d := d_Desk_say) rfl,
    d_Desk_begun_anew := c1.def_ 35 (d := d_Desk_begun_anew) rfl,
    d_Desk_feed_said := c1.def_ 36 (d := d_Desk_feed_said) rfl,
    d_Desk_feed_lines := c1.def_ 37 (d := d_Desk_feed_lines) rfl,
    d_law_cell := c1.def_ 38 (d := d_law_cell) rfl,
    d_law_mix := c1.def_ 39 (d := d_law_mix) rfl,
    d_law_row := c1.def_ 40 (d := d_law_row) rfl,
    d_law_table := c1.def_ 41 (d := d_law_table) rfl,
    d_law_flaw := c1.def_ 42 (d := d_law_flaw) rfl,
    d_law_roll := c1.def_ 43 (d := d_law_roll) rfl,
    d_law_drawn := c1.def_ 44 (d := d_law_drawn) rfl,
    d_law_sums := c1.def_ 45 (d := d_law_sums) rfl,
    d_law_good := c1.def_ 46 (d := d_law_good) rfl,
    d_law_heights := c1.def_ 47 (d := d_law_heights) rfl,
    d_law_back := c1.def_ 48 (d := d_law_back) rfl,
    d_law_cut := c1.def_ 49 (d := d_law_cut) rfl,
    d_law_starts := c1.def_ 50 (d := d_law_starts) rfl,
    d_law_stops := c1.def_ 51 (d := d_law_stops) rfl,
    d_law_settled := c1.def_ 52 (d := d_law_settled) rfl,
    d_law_line := c1.def_ 53 (d := d_law_line) rfl,
    d_law_table_line := c1.def_ 54 (d := d_law_table_line) rfl,
    d_law_cutting_line := c1.def_ 55 (d := d_law_cutting_line) rfl,
    d_law_said := c1.def_ 56 (d := d_law_said) rfl,
    d_law_sure := c1.def_ 57 (d := d_law_sure) rfl,
    d_law_asked := c1.def_ 58 (d := d_law_asked) rfl,
    d_law_take := c1.def_ 59 (d := d_law_take) rfl,
    d_law_closed := c1.def_ 60 (d := d_law_closed) rfl,
    d_law := c1.def_ 61 (d := d_law) rfl
  }
/-- all defs keep their promises -/
theorem all_ok {P : Program} {w : World} {K : PySem.W.Frag} {mg : Str → Option Value} {base : Heap} {fd : FuncData} (T : Top K mg) (FD : FnP K d_law (He.ga K "law") fd) : FnOk P w K mg base CX0 14 (He.ga K "law") fd p_law (sp_law K) := by
  have O_law_cell : Ok P w K mg base 1 (He.ga K "_law_cell") p_law_cell (sp_law_cell K) := ok_law_cell (k := 0) T 
  have O_law_mix : Ok P w K mg base 1 (He.ga K "_law_mix") p_law_mix (sp_law_mix K) := ok_law_mix (k := 0) T 
  have O_law_row : Ok P w K mg base 2 (He.ga K "_law_row") p_law_row (sp_law_row K) := ok_law_row (k := 1) T (O_law_cell.mono (by decide)) (O_law_mix.mono (by decide))
  have O_law_flaw : Ok P w K mg base 3 (He.ga K "_law_flaw") p_law_flaw (sp_law_flaw K) := ok_law_flaw (k := 2) T (O_law_row.mono (by decide))
  have O_law_roll : Ok P w K mg base 3 (He.ga K "_law_roll") p_law_roll (sp_law_roll K) := ok_law_roll (k := 2) T (O_law_row.mono (by decide))
  have O_law_table : Ok P w K mg base 3 (He.ga K "_law_table") p_law_table (sp_law_table K) := ok_law_table (k := 2) T (O_law_row.mono (by decide))
  have O_law_drawn : Ok P w K mg base 4 (He.ga K "_law_drawn") p_law_drawn (sp_law_drawn K) := ok_law_drawn (k := 3) T (O_law_flaw.mono (by decide)) (O_law_roll.mono (by decide)) (O_law_table.mono (by decide))
  have O_Stock_init : Ok P w K mg base 1 (He.ma K (He.ga K "Stock") "__init__") p_Stock_init (sp_Stock_init K) := ok_Stock_init (k := 0) T 
  have O_Desk_init : Ok P w K mg base 3 (He.ma K (He.ga K "Desk") "__init__") p_Desk_init (sp_Desk_init K) := ok_Desk_init (k := 1) T (O_Stock_init.mono (by decide))
  have O_law_table_line : Ok P w K mg base 1 (He.ga K "_law_table_line") p_law_table_line (sp_law_table_line K) := ok_law_table_line (k := 0) T 
  have O_good_name : Ok P w K mg base 1 (He.ga K "good_name") p_good_name (sp_good_name K) := ok_good_name (k := 0) T 
  have O_read_name : Ok P w K mg base 2 (He.ga K "read_name") p_read_name (sp_read_name K) := ok_read_name (k := 1) T (O_good_name.mono (by decide))
  have O_read_whole : Ok P w K mg base 1 (He.ga K "read_whole") p_read_whole (sp_read_whole K) := ok_read_whole (k := 0) T 
  have O_read_kind : Ok P w K mg base 3 (He.ga K "read_kind") p_read_kind (sp_read_kind K) := ok_read_kind (k := 2) T (O_read_name.mono (by decide)) (O_read_whole.mono (by decide))
  have O_good_kind : Ok P w K mg base 2 (He.ga K "good_kind") p_good_kind (sp_good_kind K) := ok_good_kind (k := 1) T (O_good_name.mono (by decide))
  have O_fault : Ok P w K mg base 3 (He.ga K "fault") p_fault (sp_fault K) := ok_fault (k := 2) T (O_good_kind.mono (by decide))
  have O_read_table : Ok P w K mg base 4 (He.ga K "read_table") p_read_table (sp_read_table K) := ok_read_table (k := 3) T (O_read_kind.mono (by decide)) (O_fault.mono (by decide))
  have O_read_numbers : Ok P w K mg base 2 (He.ga K "read_numbers") p_read_numbers (sp_read_numbers K) := ok_read_numbers (k := 1) T (O_read_whole.mono (by decide))
  have O_checked_roll : Ok P w K mg base 1 (He.ga K "checked_roll") p_checked_roll (sp_checked_roll K) := ok_checked_roll (k := 0) T 
  have O_read_roll : Ok P w K mg base 3 (He.ga K "read_roll") p_read_roll (sp_read_roll K) := ok_read_roll (k := 2) T (O_read_numbers.mono (by decide)) (O_checked_roll.mono (by decide))
  have O_read_line : Ok P w K mg base 5 (He.ga K "read_line") p_read_line (sp_read_line K) := ok_read_line (k := 4) T (O_read_table.mono (by decide)) (O_read_name.mono (by decide)) (O_read_roll.mono (by decide))
  have O_Feed_init : Ok P w K mg base 1 (He.ma K (He.ga K "Feed") "__init__") p_Feed_init (sp_Feed_init K) := ok_Feed_init (k := 0) T 
  have O_Feed_closed : Ok P w K mg base 1 (He.ma K (He.ga K "Feed") "closed") p_Feed_closed (sp_Feed_closed K) := ok_Feed_closed (k := 0) T 
  have O_Feed_cells : Ok P w K mg base 1 (He.ma K (He.ga K "Feed") "cells") p_Feed_cells (sp_Feed_cells K) := ok_Feed_cells (k := 0) T 
  have O_Feed_still_open : Ok P w K mg base 1 (He.ma K (He.ga K "Feed") "still_open") p_Feed_still_open (sp_Feed_still_open K) := ok_Feed_still_open (k := 0) T 
  have O_running_sums : Ok P w K mg base 1 (He.ga K "running_sums") p_running_sums (sp_running_sums K) := ok_running_sums (k := 0) T 
  have O_ends_well : Ok P w K mg base 1 (He.ga K "ends_well") p_ends_well (sp_ends_well K) := ok_ends_well (k := 0) T 
  have O_heights : Ok P w K mg base 2 (He.ga K "heights") p_heights (sp_heights K) := ok_heights (k := 1) T (O_running_sums.mono (by decide)) (O_ends_well.mono (by decide))
  have O_last_kind : Ok P w K mg base 2 (He.ga K "last_kind") p_last_kind (sp_last_kind K) := ok_last_kind (k := 1) T (O_ends_well.mono (by decide))
  have O_steps_back : Ok P w K mg base 3 (He.ga K "steps_back") p_steps_back (sp_steps_back K) := ok_steps_back (k := 2) T (O_running_sums.mono (by decide)) (O_heights.mono (by decide)) (O_last_kind.mono (by decide))
  have O_Feed_is_open : Ok P w K mg base 1 (He.ma K (He.ga K "Feed") "is_open") p_Feed_is_open (sp_Feed_is_open K) := ok_Feed_is_open (k := 0) T 
  have O_Feed_open_starts : Ok P w K mg base 3 (He.ma K (He.ga K "Feed") "open_starts") p_Feed_open_starts (sp_Feed_open_starts K) := ok_Feed_open_starts (k := 2) T (O_running_sums.mono (by decide)) (O_heights.mono (by decide)) (O_Feed_is_open.mono (by decide))
  have O_meeting_place : Ok P w K mg base 1 (He.ga K "meeting_place") p_meeting_place (sp_meeting_place K) := ok_meeting_place (k := 0) T 
  have O_Feed_settled : Ok P w K mg base 4 (He.ma K (He.ga K "Feed") "settled") p_Feed_settled (sp_Feed_settled K) := ok_Feed_settled (k := 3) T (O_steps_back.mono (by decide)) (O_Feed_open_starts.mono (by decide)) (O_meeting_place.mono (by decide))
  have O_cutting_told : Ok P w K mg base 3 (He.ga K "cutting_told") p_cutting_told (sp_cutting_told K) := ok_cutting_told (k := 2) T (O_running_sums.mono (by decide)) (O_heights.mono (by decide)) (O_last_kind.mono (by decide))
  have O_Feed_sure : Ok P w K mg base 5 (He.ma K (He.ga K "Feed") "sure") p_Feed_sure (sp_Feed_sure K) := ok_Feed_sure (k := 4) T (O_Feed_settled.mono (by decide)) (O_cutting_told.mono (by decide))
  have O_Feed_fresh : Ok P w K mg base 6 (He.ma K (He.ga K "Feed") "fresh") p_Feed_fresh (sp_Feed_fresh K) := ok_Feed_fresh (k := 5) T (O_Feed_sure.mono (by decide))
  have O_Feed_take : Ok P w K mg base 7 (He.ma K (He.ga K "Feed") "take") p_Feed_take (sp_Feed_take K) := ok_Feed_take (k := 6) T (O_Feed_still_open.mono (by decide)) (O_Feed_fresh.mono (by decide))
  have O_show_cutting : Ok P w K mg base 1 (He.ga K "show_cutting") p_show_cutting (sp_show_cutting K) := ok_show_cutting (k := 0) T 
  have O_Feed_close : Ok P w K mg base 7 (He.ma K (He.ga K "Feed") "close") p_Feed_close (sp_Feed_close K) := ok_Feed_close (k := 6) T (O_Feed_still_open.mono (by decide)) (O_Feed_fresh.mono (by decide))
  have O_best : Ok P w K mg base 4 (He.ga K "best") p_best (sp_best K) := ok_best (k := 3) T (O_heights.mono (by decide)) (O_cutting_told.mono (by decide))
  have O_Feed_cutting : Ok P w K mg base 5 (He.ma K (He.ga K "Feed") "cutting") p_Feed_cutting (sp_Feed_cutting K) := ok_Feed_cutting (k := 4) T (O_best.mono (by decide))
  have O_Desk_feed_lines : Ok P w K mg base 8 (He.ma K (He.ga K "Desk") "feed_lines") p_Desk_feed_lines (sp_Desk_feed_lines K) := ok_Desk_feed_lines (k := 7) T (O_Feed_closed.mono (by decide)) (O_Feed_cells.mono (by decide)) (O_Feed_take.mono (by decide)) (O_show_cutting.mono (by decide)) (O_Feed_close.mono (by decide)) (O_Feed_sure.mono (by decide)) (O_Feed_settled.mono (by decide)) (O_Feed_cutting.mono (by decide))
  have O_Desk_feed_said : Ok P w K mg base 9 (He.ma K (He.ga K "Desk") "feed_said") p_Desk_feed_said (sp_Desk_feed_said K) := ok_Desk_feed_said (k := 7) T (O_Feed_init.mono (by decide)) (O_Desk_feed_lines.mono (by decide))
  have O_Desk_begun_anew : Ok P w K mg base 3 (He.ma K (He.ga K "Desk") "begun_anew") p_Desk_begun_anew (sp_Desk_begun_anew K) := ok_Desk_begun_anew (k := 1) T (O_Stock_init.mono (by decide))
  have O_Desk_say : Ok P w K mg base 10 (He.ma K (He.ga K "Desk") "say") p_Desk_say (sp_Desk_say K) := ok_Desk_say (k := 9) T (O_read_line.mono (by decide)) (O_Desk_feed_said.mono (by decide)) (O_Desk_begun_anew.mono (by decide))
  have O_law_said : Ok P w K mg base 11 (He.ga K "_law_said") p_law_said (sp_law_said K) := ok_law_said (k := 10) T (O_Desk_say.mono (by decide))
  have O_law_sums : Ok P w K mg base 1 (He.ga K "_law_sums") p_law_sums (sp_law_sums K) := ok_law_sums (k := 0) T 
  have O_law_good : Ok P w K mg base 1 (He.ga K "_law_good") p_law_good (sp_law_good K) := ok_law_good (k := 0) T 
  have O_law_heights : Ok P w K mg base 2 (He.ga K "_law_heights") p_law_heights (sp_law_heights K) := ok_law_heights (k := 1) T (O_law_sums.mono (by decide)) (O_law_good.mono (by decide))
  have O_law_back : Ok P w K mg base 3 (He.ga K "_law_back") p_law_back (sp_law_back K) := ok_law_back (k := 2) T (O_law_sums.mono (by decide)) (O_law_heights.mono (by decide)) (O_law_good.mono (by decide))
  have O_law_starts : Ok P w K mg base 3 (He.ga K "_law_starts") p_law_starts (sp_law_starts K) := ok_law_starts (k := 2) T (O_law_sums.mono (by decide)) (O_law_heights.mono (by decide))
  have O_law_stops : Ok P w K mg base 1 (He.ga K "_law_stops") p_law_stops (sp_law_stops K) := ok_law_stops (k := 0) T 
  have O_law_settled : Ok P w K mg base 2 (He.ga K "_law_settled") p_law_settled (sp_law_settled K) := ok_law_settled (k := 1) T (O_law_stops.mono (by decide))
  have O_law_cut : Ok P w K mg base 1 (He.ga K "_law_cut") p_law_cut (sp_law_cut K) := ok_law_cut (k := 0) T 
  have O_law_sure : Ok P w K mg base 4 (He.ga K "_law_sure") p_law_sure (sp_law_sure K) := ok_law_sure (k := 3) T (O_law_back.mono (by decide)) (O_law_starts.mono (by decide)) (O_law_settled.mono (by decide)) (O_law_cut.mono (by decide))
  have O_law_line : Ok P w K mg base 1 (He.ga K "_law_line") p_law_line (sp_law_line K) := ok_law_line (k := 0) T 
  have O_law_cutting_line : Ok P w K mg base 1 (He.ga K "_law_cutting_line") p_law_cutting_line (sp_law_cutting_line K) := ok_law_cutting_line (k := 0) T 
  have O_law_take : Ok P w K mg base 12 (He.ga K "_law_take") p_law_take (sp_law_take K) := ok_law_take (k := 11) T (O_law_sure.mono (by decide)) (O_law_line.mono (by decide)) (O_law_cutting_line.mono (by decide)) (O_law_said.mono (by decide))
  have O_law_asked : Ok P w K mg base 12 (He.ga K "_law_asked") p_law_asked (sp_law_asked K) := ok_law_asked (k := 11) T (O_law_sure.mono (by decide)) (O_law_back.mono (by decide)) (O_law_cut.mono (by decide)) (O_law_said.mono (by decide)) (O_law_cutting_line.mono (by decide))
  have O_law_closed : Ok P w K mg base 13 (He.ga K "_law_closed") p_law_closed (sp_law_closed K) := ok_law_closed (k := 12) T (O_law_sure.mono (by decide)) (O_law_back.mono (by decide)) (O_law_cut.mono (by decide)) (O_law_cutting_line.mono (by decide)) (O_law_said.mono (by decide)) (O_law_asked.mono (by decide))
  exact ok_law (k := 12) T FD (O_law_drawn.mono (by decide)) (O_law_flaw.mono (by decide)) (O_law_roll.mono (by decide)) (O_law_row.mono (by decide)) (O_Desk_init.mono (by decide)) (O_law_table_line.mono (by decide)) (O_law_said.mono (by decide)) (O_law_take.mono (by decide)) (O_law_asked.mono (by decide)) (O_law_closed.mono (by decide))
theorem facts {P : Program} {w : World} {K : PySem.W.Frag} {h : Heap} {mg : Str → Option Value} {f : Addr} (X : K.In h) (G : h.Ns mainGlobals mg) (hfa : mg ("law" : Str) = some (.ref f)) (c : obsS K = valS) :
    ∃ fd : FuncData, (∀ (s : Shared) (v : Value), BindsTo s fd ⟨[v], []⟩ [("_law_script", v)]) ∧ ∀ base : Heap, K.In base → base.Ns mainGlobals mg → FnOk P w K mg base CX0 14 f fd ["_law_script"] (sp_law K) := by
  have T := top_of X G c
  obtain ⟨fd, FD⟩ := T.d_law
  have e := hfa.symm.trans T.g_law
  cases e
  have b := FunD.bindsA (ps := ["_law_script"]) FD fun _ _ _ _ _ _ us hl => match us, hl with | [_], _ => rfl
  exact ⟨fd, fun s v => b s [v] rfl, fun base _ _ => all_ok T FD⟩
end Sv
open PySem PySem.W PySem.Calls PyProof.Rows
theorem PySem.Challenge.cw_selvage_k98_whole_a_feed_by_lines_holds : PySem.Challenge.rw_selvage_k98_whole_a_feed_by_lines.Holds := by
  w_on; o_law
  refine HandSHeadRun.head_any (r := OpenLaw.row PySem.Challenge.rw_selvage_k98_whole_a_feed_by_lines) (q := view (OpenLaw.row PySem.Challenge.rw_selvage_k98_whole_a_feed_by_lines).prog [146]) (H := Sv.Hd.hk) (ob := Sv.Hd.ob) (M := 12000) (loose := Sv.Hd.names) (d := HandSHeadRun.topDef (OpenLaw.row PySem.Challenge.rw_selvage_k98_whole_a_feed_by_lines).prog 146) (kwd := []) Sv.Hd.ob_eq
    (by kernel_rfl) (fun s => by kernel_rfl) Sv.Hd.run (by kernel_rfl) (by kernel_rfl) (by kernel_rfl) (by rfl) (by first | assumption | decide +kernel) (by decide +kernel) ⟨rfl, rfl, rfl, rfl, rfl, by decide +kernel⟩ ?hw ?hc
  case hw => w_witness2
  case hc =>
    refine L2.walk_ofE (l := PySem.Challenge.rw_selvage_k98_whole_a_feed_by_lines) (n := 63) (k := 14) (x := "_law_script") (CX := L2.CX0) rfl (by decide) (by kernel_rfl) ⟨rfl, by decide, by decide⟩ ?F (fun _ _ _ _ z => z)
    intro w mg fa h Y G hmg0
    obtain ⟨K, KX, c⟩ := Y
    have hmg : mg ("law" : PySem.Str) = some (.ref fa) := by
      have e : (HandSHeadRun.topDef (OpenLaw.row PySem.Challenge.rw_selvage_k98_whole_a_feed_by_lines).prog 146).name = ("law" : PySem.Str) := by kernel_rfl
      rw [← e]
      exact hmg0
    obtain ⟨fd, hb, hF⟩ := Sv.facts (P := (PySem.Challenge.rw_selvage_k98_whole_a_feed_by_lines).prog) (w := w) KX G hmg c
    exact ⟨K, fd, Sv.sp_law K, KX, hb, fun H a ns hl _ hS => ⟨a, ns, rfl, hS, fun _ => rfl⟩, hF⟩
