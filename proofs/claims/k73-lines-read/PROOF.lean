import PyProof.Rows.All
import PySem.Str
import Wide.All
import OpenK.AllK
import Wide.FinOn
import HandS.ForMost
import HandS.Exc
import HandS.Defaults
import HandS.HeadHook1
import HandS.TupAny
import HandS.CallSlots
import HandS.TupLen
import HandS.SortInts
import HandS.IsInst
import HandS.Conv
import HandS.HeadHook2
import HandS.HeadEnd
import HandS.Style
import HandS.SortOrd
import KE.LtData
import KE.KSortTupAny
import KE.DataMinMax
import KE.DataFind
import HandS.SetFor
import HandS.Strs
import HandS.Text
import KE.KStateDown
import HandS.Ends
import HandS.WordsExc
import HandS.Head0
import HandS.Head1
import HandS.Head2
import HandS.More
import HandS.Words
import PySem.Challenge.RW_armswing_k73_lines_read
set_option Elab.async false
set_option linter.all false
set_option maxRecDepth 100000
set_option maxHeartbeats 0
section
namespace Pd
inductive Nm where
  | n_ArmError | n_Ask | n_Careful | n_Desk | n_Due | n_FIGURES | n_First | n_Latest | n_Lift | n_MANY | n_MOST | n_MOST_leastways | n_MOST_plates | n_Mended 
  | n_Nearest | n_NoAsk | n_NoBook | n_NoCell | n_NoLine | n_NoOrder | n_NoPlate | n_NoRule | n_NoSpare | n_Plate | n_Played | n_Rule | n_Shares | n_Soonest 
  | n_Sweep | n_TooMany | n_UUinitUU | n__law_again | n__law_ahead | n__law_all_refused | n__law_all_told | n__law_answers | n__law_are_leaves | n__law_ask 
  | n__law_askers | n__law_asks | n__law_at | n__law_bad | n__law_bad_line | n__law_beat_word | n__law_behind | n__law_behind_way | n__law_beside | n__law_bound 
  | n__law_by_latest | n__law_careful_right | n__law_cell | n__law_cell_at | n__law_cells | n__law_chain_right | n__law_changed | n__law_clash | n__law_clashing 
  | n__law_classes | n__law_counted | n__law_counts | n__law_covered | n__law_cut | n__law_desk | n__law_draw | n__law_drawn | n__law_due | n__law_eight_right 
  | n__law_ended | n__law_ends | n__law_ever | n__law_first_wrong | n__law_forms_refused | n__law_free_ones | n__law_full | n__law_gone | n__law_good | n__law_in_time 
  | n__law_is_number | n__law_is_order | n__law_keeps | n__law_kept | n__law_known | n__law_lap | n__law_last | n__law_later | n__law_lies | n__law_line 
  | n__law_made | n__law_made_plate | n__law_many_behind_right | n__law_marks | n__law_may | n__law_mix | n__law_no | n__law_no_book | n__law_no_line | n__law_none_in_time 
  | n__law_number | n__law_numbers | n__law_odd | n__law_of_class | n__law_one_changed | n__law_one_due | n__law_orders | n__law_other_word | n__law_pairs 
  | n__law_parsed | n__law_passed | n__law_pick_right | n__law_picks_alike | n__law_plate | n__law_play_right | n__law_played | n__law_reads | n__law_refusals 
  | n__law_refused | n__law_right | n__law_rounds_right | n__law_row | n__law_row_known | n__law_rows | n__law_rule | n__law_rule_text | n__law_run | n__law_safe 
  | n__law_same | n__law_settled | n__law_spec | n__law_specs | n__law_spoiled | n__law_spot | n__law_start | n__law_stays | n__law_stream | n__law_swing 
  | n__law_tail | n__law_taken | n__law_text | n__law_thing | n__law_tight | n__law_told | n__law_told_text | n__law_waiting | n__law_walk | n__law_walked 
  | n__law_way_text | n__law_whole | n__law_without | n__law_word | n__law_words | n__law_written | n__law_zones | n__wall | n_after_word | n_all_dues 
  | n_anew | n_answers | n_answers_of | n_append | n_ask | n_ask_number | n_asked_shares | n_asker | n_at | n_bad | n_bad_numbers | n_batch | n_beats_of 
  | n_begins | n_behind | n_bound_of | n_calm | n_cell | n_cell_at | n_cells | n_cells_of | n_check | n_check_behind | n_check_lap | n_check_swing | n_clash 
  | n_clear | n_counts | n_dues_at | n_early | n_end | n_extend | n_first | n_first_late | n_first_wrong | n_free_cell | n_from_ring | n_get | n_go_by 
  | n_go_on | n_gone_through | n_heap_put | n_heap_take | n_how_far | n_in_time | n_index | n_innermost | n_inward | n_join | n_keeps_behind | n_kind | n_laid 
  | n_lap | n_lap_beats | n_last | n_latest | n_law | n_least_below | n_least_of | n_least_way | n_left_behind | n_lies | n_looked_at | n_lying | n_many 
  | n_marks | n_may_be_next | n_may_be_taken | n_moved | n_next_begin | n_next_taking | n_number | n_number_in | n_number_of | n_numbered_stretch | n_numbers_till 
  | n_one_number | n_opened | n_orders | n_other | n_pick | n_plain_cell | n_plain_number | n_play | n_pop | n_put_ask | n_rank | n_read_line | n_read_tail 
  | n_reading | n_remove | n_resting | n_reverse | n_ring_counts | n_rings | n_room | n_row | n_rows | n_rule_of | n_say | n_settled | n_share_of | n_shares 
  | n_shares_bound | n_shares_of | n_shares_row | n_shown | n_skew | n_spare | n_split | n_stretch | n_swing_of | n_swings | n_taken | n_taking | n_that_way 
  | n_told | n_told_beats | n_total | n_turn | n_turning | n_used | n_waits | n_way | n_way_end | n_way_of | n_when_told | n_with_rest | n_writing 
  deriving DecidableEq
def Nm.str : Nm → PySem.Str
  | .n_ArmError => "ArmError"
  | .n_Ask => "Ask"
  | .n_Careful => "Careful"
  | .n_Desk => "Desk"
  | .n_Due => "Due"
  | .n_FIGURES => "FIGURES"
  | .n_First => "First"
  | .n_Latest => "Latest"
  | .n_Lift => "Lift"
  | .n_MANY => "MANY"
  | .n_MOST => "MOST"
  | .n_MOST_leastways => "MOST_leastways"
  | .n_MOST_plates => "MOST_plates"
  | .n_Mended => "Mended"
  | .n_Nearest => "Nearest"
  | .n_NoAsk => "NoAsk"
  | .n_NoBook => "NoBook"
  | .n_NoCell => "NoCell"
  | .n_NoLine => "NoLine"
  | .n_NoOrder => "NoOrder"
  | .n_NoPlate => "NoPlate"
  | .n_NoRule => "NoRule"
  | .n_NoSpare => "NoSpare"
  | .n_Plate => "Plate"
  | .n_Played => "Played"
  | .n_Rule => "Rule"
  | .n_Shares => "Shares"
  | .n_Soonest => "Soonest"
  | .n_Sweep => "Sweep"
  | .n_TooMany => "TooMany"
  | .n_UUinitUU => "__init__"
  | .n__law_again => "_law_again"
  | .n__law_ahead => "_law_ahead"
  | .n__law_all_refused => "_law_all_refused"
  | .n__law_all_told => "_law_all_told"
  | .n__law_answers => "_law_answers"
  | .n__law_are_leaves => "_law_are_leaves"
  | .n__law_ask => "_law_ask"
  | .n__law_askers => "_law_askers"
  | .n__law_asks => "_law_asks"
  | .n__law_at => "_law_at"
  | .n__law_bad => "_law_bad"
  | .n__law_bad_line => "_law_bad_line"
  | .n__law_beat_word => "_law_beat_word"
  | .n__law_behind => "_law_behind"
  | .n__law_behind_way => "_law_behind_way"
  | .n__law_beside => "_law_beside"
  | .n__law_bound => "_law_bound"
  | .n__law_by_latest => "_law_by_latest"
  | .n__law_careful_right => "_law_careful_right"
  | .n__law_cell => "_law_cell"
  | .n__law_cell_at => "_law_cell_at"
  | .n__law_cells => "_law_cells"
  | .n__law_chain_right => "_law_chain_right"
  | .n__law_changed => "_law_changed"
  | .n__law_clash => "_law_clash"
  | .n__law_clashing => "_law_clashing"
  | .n__law_classes => "_law_classes"
  | .n__law_counted => "_law_counted"
  | .n__law_counts => "_law_counts"
  | .n__law_covered => "_law_covered"
  | .n__law_cut => "_law_cut"
  | .n__law_desk => "_law_desk"
  | .n__law_draw => "_law_draw"
  | .n__law_drawn => "_law_drawn"
  | .n__law_due => "_law_due"
  | .n__law_eight_right => "_law_eight_right"
  | .n__law_ended => "_law_ended"
  | .n__law_ends => "_law_ends"
  | .n__law_ever => "_law_ever"
  | .n__law_first_wrong => "_law_first_wrong"
  | .n__law_forms_refused => "_law_forms_refused"
  | .n__law_free_ones => "_law_free_ones"
  | .n__law_full => "_law_full"
  | .n__law_gone => "_law_gone"
  | .n__law_good => "_law_good"
  | .n__law_in_time => "_law_in_time"
  | .n__law_is_number => "_law_is_number"
  | .n__law_is_order => "_law_is_order"
  | .n__law_keeps => "_law_keeps"
  | .n__law_kept => "_law_kept"
  | .n__law_known => "_law_known"
  | .n__law_lap => "_law_lap"
  | .n__law_last => "_law_last"
  | .n__law_later => "_law_later"
  | .n__law_lies => "_law_lies"
  | .n__law_line => "_law_line"
  | .n__law_made => "_law_made"
  | .n__law_made_plate => "_law_made_plate"
  | .n__law_many_behind_right => "_law_many_behind_right"
  | .n__law_marks => "_law_marks"
  | .n__law_may => "_law_may"
  | .n__law_mix => "_law_mix"
  | .n__law_no => "_law_no"
  | .n__law_no_book => "_law_no_book"
  | .n__law_no_line => "_law_no_line"
  | .n__law_none_in_time => "_law_none_in_time"
  | .n__law_number => "_law_number"
  | .n__law_numbers => "_law_numbers"
  | .n__law_odd => "_law_odd"
  | .n__law_of_class => "_law_of_class"
  | .n__law_one_changed => "_law_one_changed"
  | .n__law_one_due => "_law_one_due"
  | .n__law_orders => "_law_orders"
  | .n__law_other_word => "_law_other_word"
  | .n__law_pairs => "_law_pairs"
  | .n__law_parsed => "_law_parsed"
  | .n__law_passed => "_law_passed"
  | .n__law_pick_right => "_law_pick_right"
  | .n__law_picks_alike => "_law_picks_alike"
  | .n__law_plate => "_law_plate"
  | .n__law_play_right => "_law_play_right"
  | .n__law_played => "_law_played"
  | .n__law_reads => "_law_reads"
  | .n__law_refusals => "_law_refusals"
  | .n__law_refused => "_law_refused"
  | .n__law_right => "_law_right"
  | .n__law_rounds_right => "_law_rounds_right"
  | .n__law_row => "_law_row"
  | .n__law_row_known => "_law_row_known"
  | .n__law_rows => "_law_rows"
  | .n__law_rule => "_law_rule"
  | .n__law_rule_text => "_law_rule_text"
  | .n__law_run => "_law_run"
  | .n__law_safe => "_law_safe"
  | .n__law_same => "_law_same"
  | .n__law_settled => "_law_settled"
  | .n__law_spec => "_law_spec"
  | .n__law_specs => "_law_specs"
  | .n__law_spoiled => "_law_spoiled"
  | .n__law_spot => "_law_spot"
  | .n__law_start => "_law_start"
  | .n__law_stays => "_law_stays"
  | .n__law_stream => "_law_stream"
  | .n__law_swing => "_law_swing"
  | .n__law_tail => "_law_tail"
  | .n__law_taken => "_law_taken"
  | .n__law_text => "_law_text"
  | .n__law_thing => "_law_thing"
  | .n__law_tight => "_law_tight"
  | .n__law_told => "_law_told"
  | .n__law_told_text => "_law_told_text"
  | .n__law_waiting => "_law_waiting"
  | .n__law_walk => "_law_walk"
  | .n__law_walked => "_law_walked"
  | .n__law_way_text => "_law_way_text"
  | .n__law_whole => "_law_whole"
  | .n__law_without => "_law_without"
  | .n__law_word => "_law_word"
  | .n__law_words => "_law_words"
  | .n__law_written => "_law_written"
  | .n__law_zones => "_law_zones"
  | .n__wall => "_wall"
  | .n_after_word => "after_word"
  | .n_all_dues => "all_dues"
  | .n_anew => "anew"
  | .n_answers => "answers"
  | .n_answers_of => "answers_of"
  | .n_append => "append"
  | .n_ask => "ask"
  | .n_ask_number => "ask_number"
  | .n_asked_shares => "asked_shares"
  | .n_asker => "asker"
  | .n_at => "at"
  | .n_bad => "bad"
  | .n_bad_numbers => "bad_numbers"
  | .n_batch => "batch"
  | .n_beats_of => "beats_of"
  | .n_begins => "begins"
  | .n_behind => "behind"
  | .n_bound_of => "bound_of"
  | .n_calm => "calm"
  | .n_cell => "cell"
  | .n_cell_at => "cell_at"
  | .n_cells => "cells"
  | .n_cells_of => "cells_of"
  | .n_check => "check"
  | .n_check_behind => "check_behind"
  | .n_check_lap => "check_lap"
  | .n_check_swing => "check_swing"
  | .n_clash => "clash"
  | .n_clear => "clear"
  | .n_counts => "counts"
  | .n_dues_at => "dues_at"
  | .n_early => "early"
  | .n_end => "end"
  | .n_extend => "extend"
  | .n_first => "first"
  | .n_first_late => "first_late"
  | .n_first_wrong => "first_wrong"
  | .n_free_cell => "free_cell"
  | .n_from_ring => "from_ring"
  | .n_get => "get"
  | .n_go_by => "go_by"
  | .n_go_on => "go_on"
  | .n_gone_through => "gone_through"
  | .n_heap_put => "heap_put"
  | .n_heap_take => "heap_take"
  | .n_how_far => "how_far"
  | .n_in_time => "in_time"
  | .n_index => "index"
  | .n_innermost => "innermost"
  | .n_inward => "inward"
  | .n_join => "join"
  | .n_keeps_behind => "keeps_behind"
  | .n_kind => "kind"
  | .n_laid => "laid"
  | .n_lap => "lap"
  | .n_lap_beats => "lap_beats"
  | .n_last => "last"
  | .n_latest => "latest"
  | .n_law => "law"
  | .n_least_below => "least_below"
  | .n_least_of => "least_of"
  | .n_least_way => "least_way"
  | .n_left_behind => "left_behind"
  | .n_lies => "lies"
  | .n_looked_at => "looked_at"
  | .n_lying => "lying"
  | .n_many => "many"
  | .n_marks => "marks"
  | .n_may_be_next => "may_be_next"
  | .n_may_be_taken => "may_be_taken"
  | .n_moved => "moved"
  | .n_next_begin => "next_begin"
  | .n_next_taking => "next_taking"
  | .n_number => "number"
  | .n_number_in => "number_in"
  | .n_number_of => "number_of"
  | .n_numbered_stretch => "numbered_stretch"
  | .n_numbers_till => "numbers_till"
  | .n_one_number => "one_number"
  | .n_opened => "opened"
  | .n_orders => "orders"
  | .n_other => "other"
  | .n_pick => "pick"
  | .n_plain_cell => "plain_cell"
  | .n_plain_number => "plain_number"
  | .n_play => "play"
  | .n_pop => "pop"
  | .n_put_ask => "put_ask"
  | .n_rank => "rank"
  | .n_read_line => "read_line"
  | .n_read_tail => "read_tail"
  | .n_reading => "reading"
  | .n_remove => "remove"
  | .n_resting => "resting"
  | .n_reverse => "reverse"
  | .n_ring_counts => "ring_counts"
  | .n_rings => "rings"
  | .n_room => "room"
  | .n_row => "row"
  | .n_rows => "rows"
  | .n_rule_of => "rule_of"
  | .n_say => "say"
  | .n_settled => "settled"
  | .n_share_of => "share_of"
  | .n_shares => "shares"
  | .n_shares_bound => "shares_bound"
  | .n_shares_of => "shares_of"
  | .n_shares_row => "shares_row"
  | .n_shown => "shown"
  | .n_skew => "skew"
  | .n_spare => "spare"
  | .n_split => "split"
  | .n_stretch => "stretch"
  | .n_swing_of => "swing_of"
  | .n_swings => "swings"
  | .n_taken => "taken"
  | .n_taking => "taking"
  | .n_that_way => "that_way"
  | .n_told => "told"
  | .n_told_beats => "told_beats"
  | .n_total => "total"
  | .n_turn => "turn"
  | .n_turning => "turning"
  | .n_used => "used"
  | .n_waits => "waits"
  | .n_way => "way"
  | .n_way_end => "way_end"
  | .n_way_of => "way_of"
  | .n_when_told => "when_told"
  | .n_with_rest => "with_rest"
  | .n_writing => "writing"
def Nm.all : List Nm := [.n_ArmError, .n_Ask, .n_Careful, .n_Desk, .n_Due, .n_FIGURES, .n_First, .n_Latest, .n_Lift, .n_MANY, .n_MOST, .n_MOST_leastways, .n_MOST_plates, .n_Mended, .n_Nearest, .n_NoAsk, .n_NoBook, .n_NoCell, .n_NoLine, .n_NoOrder, .n_NoPlate, .n_NoRule, .n_NoSpare, .n_Plate, .n_Played, .n_Rule, .n_Shares, .n_Soonest, .n_Sweep, .n_TooMany, .n_UUinitUU, .n__law_again, .n__law_ahead, .n__law_all_refused, .n__law_all_told, .n__law_answers, .n__law_are_leaves, .n__law_ask, .n__law_askers, .n__law_asks, .n__law_at, .n__law_bad, .n__law_bad_line, .n__law_beat_word, .n__law_behind, .n__law_behind_way, .n__law_beside, .n__law_bound, .n__law_by_latest, .n__law_careful_right, .n__law_cell, .n__law_cell_at, .n__law_cells, .n__law_chain_right, .n__law_changed, .n__law_clash, .n__law_clashing, .n__law_classes, .n__law_counted, .n__law_counts, .n__law_covered, .n__law_cut, .n__law_desk, .n__law_draw, .n__law_drawn, .n__law_due, .n__law_eight_right, .n__law_ended, .n__law_ends, .n__law_ever, .n__law_first_wrong, .n__law_forms_refused, .n__law_free_ones, .n__law_full, .n__law_gone, .n__law_good, .n__law_in_time, .n__law_is_number, .n__law_is_order, .n__law_keeps, .n__law_kept, .n__law_known, .n__law_lap, .n__law_last, .n__law_later, .n__law_lies, .n__law_line, .n__law_made, .n__law_made_plate, .n__law_many_behind_right, .n__law_marks, .n__law_may, .n__law_mix, .n__law_no, .n__law_no_book, .n__law_no_line, .n__law_none_in_time, .n__law_number, .n__law_numbers, .n__law_odd, .n__law_of_class, .n__law_one_changed, .n__law_one_due, .n__law_orders, .n__law_other_word, .n__law_pairs, .n__law_parsed, .n__law_passed, .n__law_pick_right, .n__law_picks_alike, .n__law_plate, .n__law_play_right, .n__law_played, .n__law_reads, .n__law_refusals, .n__law_refused, .n__law_right, .n__law_rounds_right, .n__law_row, .n__law_row_known, .n__law_rows, .n__law_rule, .n__law_rule_text, .n__law_run, .n__law_safe, .n__law_same, .n__law_settled, .n__law_spec, .n__law_specs, .n__law_spoiled, .n__law_spot, .n__law_start, .n__law_stays, .n__law_stream, .n__law_swing, .n__law_tail, .n__law_taken, .n__law_text, .n__law_thing, .n__law_tight, .n__law_told, .n__law_told_text, .n__law_waiting, .n__law_walk, .n__law_walked, .n__law_way_text, .n__law_whole, .n__law_without, .n__law_word, .n__law_words, .n__law_written, .n__law_zones, .n__wall, .n_after_word, .n_all_dues, .n_anew, .n_answers, .n_answers_of, .n_append, .n_ask, .n_ask_number, .n_asked_shares, .n_asker, .n_at, .n_bad, .n_bad_numbers, .n_batch, .n_beats_of, .n_begins, .n_behind, .n_bound_of, .n_calm, .n_cell, .n_cell_at, .n_cells, .n_cells_of, .n_check, .n_check_behind, .n_check_lap, .n_check_swing, .n_clash, .n_clear, .n_counts, .n_dues_at, .n_early, .n_end, .n_extend, .n_first, .n_first_late, .n_first_wrong, .n_free_cell, .n_from_ring, .n_get, .n_go_by, .n_go_on, .n_gone_through, .n_heap_put, .n_heap_take, .n_how_far, .n_in_time, .n_index, .n_innermost, .n_inward, .n_join, .n_keeps_behind, .n_kind, .n_laid, .n_lap, .n_lap_beats, .n_last, .n_latest, .n_law, .n_least_below, .n_least_of, .n_least_way, .n_left_behind, .n_lies, .n_looked_at, .n_lying, .n_many, .n_marks, .n_may_be_next, .n_may_be_taken, .n_moved, .n_next_begin, .n_next_taking, .n_number, .n_number_in, .n_number_of, .n_numbered_stretch, .n_numbers_till, .n_one_number, .n_opened, .n_orders, .n_other, .n_pick, .n_plain_cell, .n_plain_number, .n_play, .n_pop, .n_put_ask, .n_rank, .n_read_line, .n_read_tail, .n_reading, .n_remove, .n_resting, .n_reverse, .n_ring_counts, .n_rings, .n_room, .n_row, .n_rows, .n_rule_of, .n_say, .n_settled, .n_share_of, .n_shares, .n_shares_bound, .n_shares_of, .n_shares_row, .n_shown, .n_skew, .n_spare, .n_split, .n_stretch, .n_swing_of, .n_swings, .n_taken, .n_taking, .n_that_way, .n_told, .n_told_beats, .n_total, .n_turn, .n_turning, .n_used, .n_waits, .n_way, .n_way_end, .n_way_of, .n_when_told, .n_with_rest, .n_writing]
def Nm.of (s : PySem.Str) : Option Nm := Nm.all.find? fun n => decide (n.str = s)
theorem Nm.all_mem (n : Nm) : n ∈ Nm.all := List.mem_of_getElem? (i := n.ctorIdx) (by cases n <;> rfl)
theorem Nm.of_all : ∀ n ∈ Nm.all, Nm.of n.str = some n := by decide +kernel
theorem Nm.str_inj {n f : Nm} (h : n.str = f.str) : n = f := by
  have h1 := Nm.of_all n (Nm.all_mem n)
  have h2 := Nm.of_all f (Nm.all_mem f)
  rw [h, h2] at h1
  exact (Option.some.inj h1).symm
end Pd
end
section
/-! Pd: values as trees, and how a tree lies in the tracked heap: frozen (in a part of the heap that stays) or owned (its mutable nodes at unlike addresses that nothing else names). -/
namespace Pd
open PySem L2

/-- a value without addresses -/
inductive D where
  | non | bl (b : Bool) | int (i : Int) | str (x : Str)
  | lst (xs : List D) | tup (xs : List D)
  /-- a list that is read only (the script) -/
  | frl (xs : List D)
  | dk (ks : List Key) (xs : List D) | dt (ks : List (List Key)) (xs : List D)
  | ins (C : Nm) (ns : List Nm) (xs : List D)
  | cls (C : Nm)
  /-- a caught exception -/
  | exc (C : Nm) (ns : List Nm) (xs : List D)
  /-- the place of what was lent -/
  | hole (v : V)
  /-- a dict that is walked -/
  | lkt (od : Obj) (kvs : List (List Key × V))

abbrev ca (K : PySem.W.Frag) (C : Nm) : Addr := He.ga K C.str

def Ex (H H' : Hp) : Prop := ∀ a o, H a = some o → H' a = some o
theorem Ex.refl (H : Hp) : Ex H H := fun _ _ h => h
theorem Ex.trans {H H1 H2 : Hp} (a : Ex H H1) (b : Ex H1 H2) : Ex H H2 := fun x o h => b x o (a x o h)
theorem Ex.new {H : Hp} {p : Addr} {o : HO} (h : H p = none) : Ex H (upd H p o) := fun a u e => by
  rw [upd_ne (ne_of_none e h)]; exact e
theorem Ex.none {H H' : Hp} {p : Addr} (e : Ex H H') (h : H' p = none) : H p = none := by
  cases h1 : H p with
  | none => rfl
  | some o => rw [e p o h1] at h; cases h
/-- an object that H does not know may change -/
theorem Ex.mut {H H' : Hp} {p : Addr} {o : HO} (e : Ex H H') (h : H p = Option.none) : Ex H (upd H' p o) := fun a u ha => by
  rw [upd_ne (ne_of_none ha h)]; exact e a u ha
theorem Ex.rd {H H' : Hp} {a : Addr} {u : HO} (e : Ex H H') (h : Rd H a u) : Rd H' a u := by
  rcases h with h | ⟨o, h⟩
  · exact .inl (e a _ h)
  · exact .inr ⟨o, e a _ h⟩
theorem Ex.sql {K : PySem.W.Frag} {H H' : Hp} {a : Addr} {xs : List V} (e : Ex H H') (h : SqL K H a xs) : SqL K H' a xs := by
  rcases h with h | h
  · exact .inl (e.rd h)
  · exact .inr h

/-! ### a tree in the heap -/
mutual
inductive Rp (K : PySem.W.Frag) (H : Hp) : V → D → Prop
  | non : Rp K H .non .non
  | bl (b : Bool) : Rp K H (.bl b) (.bl b)
  | int (i : Int) : Rp K H (.int i) (.int i)
  | str (x : Str) : Rp K H (.str x) (.str x)
  | lst {a : Addr} {vs : List V} {ds : List D} : H a = some (.lst vs) → RpL K H vs ds → Rp K H (.ref a) (.lst ds)
  | tup {a : Addr} {vs : List V} {ds : List D} : H a = some (.tup vs) → RpL K H vs ds → Rp K H (.ref a) (.tup ds)
  | frl {a : Addr} {vs : List V} {ds : List D} : SqL K H a vs → RpL K H vs ds → Rp K H (.ref a) (.frl ds)
  | dk {a : Addr} {ks : List Key} {vs : List V} {ds : List D} : H a = some (.dK (ks.zip vs)) → ks.length = vs.length → RpL K H vs ds → Rp K H (.ref a) (.dk ks ds)
  | dt {a : Addr} {ks : List (List Key)} {vs : List V} {ds : List D} : H a = some (.dT (ks.zip vs)) → ks.length = vs.length → RpL K H vs ds → Rp K H (.ref a) (.dt ks ds)
  | ins {a dx : Addr} {C : Nm} {ns : List Nm} {vs : List V} {ds : List D} : H a = some (.ins (ca K C) dx ((ns.map Nm.str).zip vs)) → ns.length = vs.length → RpL K H vs ds → Rp K H (.ref a) (.ins C ns ds)
  | cls (C : Nm) : Rp K H (.ref (ca K C)) (.cls C)
  | hole (v : V) : Rp K H v (.hole v)
  | lkt {a : Addr} {od : Obj} {kvs : List (List Key × V)} : H a = some (.frz od (.dT kvs)) → Rp K H (.ref a) (.lkt od kvs)
inductive RpL (K : PySem.W.Frag) (H : Hp) : List V → List D → Prop
  | nil : RpL K H [] []
  | cons {v : V} {vs : List V} {d : D} {ds : List D} : Rp K H v d → RpL K H vs ds → RpL K H (v :: vs) (d :: ds)
end
section
variable {K : PySem.W.Frag} {H H' : Hp}
mutual
theorem Rp.mono (e : Ex H H') : ∀ {v : V} {d : D}, Rp K H v d → Rp K H' v d
  | _, _, .non => .non
  | _, _, .bl b => .bl b
  | _, _, .int i => .int i
  | _, _, .str x => .str x
  | _, _, .lst h r => .lst (e _ _ h) (RpL.mono e r)
  | _, _, .tup h r => .tup (e _ _ h) (RpL.mono e r)
  | _, _, .frl h r => .frl (e.sql h) (RpL.mono e r)
  | _, _, .dk h l r => .dk (e _ _ h) l (RpL.mono e r)
  | _, _, .dt h l r => .dt (e _ _ h) l (RpL.mono e r)
  | _, _, .ins h l r => .ins (e _ _ h) l (RpL.mono e r)
  | _, _, .cls C => .cls C
  | _, _, .hole v => .hole v
  | _, _, .lkt h => .lkt (e _ _ h)
theorem RpL.mono (e : Ex H H') : ∀ {vs : List V} {ds : List D}, RpL K H vs ds → RpL K H' vs ds
  | _, _, .nil => .nil
  | _, _, .cons h r => .cons (Rp.mono e h) (RpL.mono e r)
end
theorem RpL.length : ∀ {vs : List V} {ds : List D}, RpL K H vs ds → vs.length = ds.length
  | _, _, .nil => rfl
  | _, _, .cons _ r => congrArg Nat.succ (RpL.length r)
theorem RpL.get : ∀ {vs : List V} {ds : List D} {i : Nat} {d : D}, RpL K H vs ds → ds[i]? = some d → ∃ v, vs[i]? = some v ∧ Rp K H v d
  | _, _, _, _, .nil, e => by simp at e
  | _, _, 0, _, .cons h _, e => by simp at e; subst e; exact ⟨_, rfl, h⟩
  | _, _, i + 1, _, .cons _ r, e => by
    obtain ⟨v, h1, h2⟩ := RpL.get (i := i) r (by simpa using e)
    exact ⟨v, by simpa using h1, h2⟩
theorem RpL.getV : ∀ {vs : List V} {ds : List D} {i : Nat} {v : V}, RpL K H vs ds → vs[i]? = some v → ∃ d, ds[i]? = some d ∧ Rp K H v d
  | _, _, _, _, .nil, e => by simp at e
  | _, _, 0, _, .cons h _, e => by simp at e; subst e; exact ⟨_, rfl, h⟩
  | _, _, i + 1, _, .cons _ r, e => by
    obtain ⟨v, h1, h2⟩ := RpL.getV (i := i) r (by simpa using e)
    exact ⟨v, by simpa using h1, h2⟩
theorem RpL.append : ∀ {vs ws : List V} {ds es : List D}, RpL K H vs ds → RpL K H ws es → RpL K H (vs ++ ws) (ds ++ es)
  | _, _, _, _, .nil, s => s
  | _, _, _, _, .cons h r, s => .cons h (RpL.append r s)
theorem RpL.set {v : V} {d : D} (h : Rp K H v d) : ∀ {vs : List V} {ds : List D} (i : Nat), RpL K H vs ds → RpL K H (vs.set i v) (ds.set i d)
  | _, _, _, .nil => .nil
  | _, _, 0, .cons _ r => .cons h r
  | _, _, i + 1, .cons g r => .cons g (RpL.set h i r)
theorem RpL.take : ∀ {vs : List V} {ds : List D} (n : Nat), RpL K H vs ds → RpL K H (vs.take n) (ds.take n)
  | _, _, 0, _ => .nil
  | _, _, _ + 1, .nil => .nil
  | _, _, n + 1, .cons h r => .cons h (RpL.take n r)
theorem RpL.drop : ∀ {vs : List V} {ds : List D} (n : Nat), RpL K H vs ds → RpL K H (vs.drop n) (ds.drop n)
  | _, _, 0, r => r
  | _, _, _ + 1, .nil => .nil
  | _, _, n + 1, .cons _ r => RpL.drop n r
theorem RpL.reverse : ∀ {vs : List V} {ds : List D}, RpL K H vs ds → RpL K H vs.reverse ds.reverse
  | _, _, .nil => .nil
  | _, _, .cons h r => by
    rw [List.reverse_cons, List.reverse_cons]
    exact (RpL.reverse r).append (.cons h .nil)
end

/-- a value that nobody can change: it needs no owner -/
def immut : D → Bool
  | .non => true | .bl _ => true | .int _ => true | .str _ => true | .tup _ => true | .frl _ => true | .cls _ => true | .hole _ => true
  | _ => false

/-! ### an owned tree: m levels of it are changeable, and lie at the addresses A -/
mutual
inductive Own (K : PySem.W.Frag) (Hz H : Hp) : Nat → V → D → List Addr → Prop
  | fz {m : Nat} {v : V} {d : D} : (m = 0 ∨ immut d = true) → Rp K Hz v d → Own K Hz H m v d []
  | lst {m : Nat} {a : Addr} {vs : List V} {ds : List D} {A : List Addr} : H a = some (.lst vs) → OwnL K Hz H m vs ds A → Own K Hz H (m + 1) (.ref a) (.lst ds) (a :: A)
  | dk {m : Nat} {a : Addr} {ks : List Key} {vs : List V} {ds : List D} {A : List Addr} : H a = some (.dK (ks.zip vs)) → ks.length = vs.length → OwnL K Hz H m vs ds A → Own K Hz H (m + 1) (.ref a) (.dk ks ds) (a :: A)
  | dt {m : Nat} {a : Addr} {ks : List (List Key)} {vs : List V} {ds : List D} {A : List Addr} : H a = some (.dT (ks.zip vs)) → ks.length = vs.length → OwnL K Hz H m vs ds A → Own K Hz H (m + 1) (.ref a) (.dt ks ds) (a :: A)
  | ins {m : Nat} {a dx : Addr} {C : Nm} {ns : List Nm} {vs : List V} {ds : List D} {A : List Addr} : H a = some (.ins (ca K C) dx ((ns.map Nm.str).zip vs)) → ns.length = vs.length → OwnL K Hz H m vs ds A → Own K Hz H (m + 1) (.ref a) (.ins C ns ds) (a :: A)
  | lkt {m : Nat} {a : Addr} {od : Obj} {kvs : List (List Key × V)} : H a = some (.frz od (.dT kvs)) → Own K Hz H (m + 1) (.ref a) (.lkt od kvs) [a]
inductive OwnL (K : PySem.W.Frag) (Hz H : Hp) : Nat → List V → List D → List Addr → Prop
  | nil {m : Nat} : OwnL K Hz H m [] [] []
  | cons {m : Nat} {v : V} {vs : List V} {d : D} {ds : List D} {A B : List Addr} : Own K Hz H m v d A → OwnL K Hz H m vs ds B → OwnL K Hz H m (v :: vs) (d :: ds) (A ++ B)
end
section
variable {K : PySem.W.Frag} {Hz Hz' H H' : Hp}
mutual
theorem Own.mono (ez : Ex Hz Hz') : ∀ {m : Nat} {v : V} {d : D} {A : List Addr}, (∀ a ∈ A, H' a = H a) → Own K Hz H m v d A → Own K Hz' H' m v d A
  | _, _, _, _, _, .fz c r => .fz c (r.mono ez)
  | _, _, _, _, k, .lst h r => .lst ((k _ List.mem_cons_self).trans h) (OwnL.mono ez (fun a ha => k a (List.mem_cons_of_mem _ ha)) r)
  | _, _, _, _, k, .dk h l r => .dk ((k _ List.mem_cons_self).trans h) l (OwnL.mono ez (fun a ha => k a (List.mem_cons_of_mem _ ha)) r)
  | _, _, _, _, k, .dt h l r => .dt ((k _ List.mem_cons_self).trans h) l (OwnL.mono ez (fun a ha => k a (List.mem_cons_of_mem _ ha)) r)
  | _, _, _, _, k, .ins h l r => .ins ((k _ List.mem_cons_self).trans h) l (OwnL.mono ez (fun a ha => k a (List.mem_cons_of_mem _ ha)) r)
  | _, _, _, _, k, .lkt h => .lkt ((k _ List.mem_cons_self).trans h)
theorem OwnL.mono (ez : Ex Hz Hz') : ∀ {m : Nat} {vs : List V} {ds : List D} {A : List Addr}, (∀ a ∈ A, H' a = H a) → OwnL K Hz H m vs ds A → OwnL K Hz' H' m vs ds A
  | _, _, _, _, _, .nil => .nil
  | _, _, _, _, k, .cons h r => .cons (Own.mono ez (fun a ha => k a (List.mem_append_left _ ha)) h) (OwnL.mono ez (fun a ha => k a (List.mem_append_right _ ha)) r)
end
mutual
/-- each of the addresses is tracked -/
theorem Own.there : ∀ {m : Nat} {v : V} {d : D} {A : List Addr}, Own K Hz H m v d A → ∀ a ∈ A, ∃ o, H a = some o
  | _, _, _, _, .fz _ _, a, ha => absurd ha (by simp)
  | _, _, _, _, .lst h r, a, ha => (List.mem_cons.mp ha).elim (fun e => ⟨_, e ▸ h⟩) (OwnL.there r a)
  | _, _, _, _, .dk h _ r, a, ha => (List.mem_cons.mp ha).elim (fun e => ⟨_, e ▸ h⟩) (OwnL.there r a)
  | _, _, _, _, .dt h _ r, a, ha => (List.mem_cons.mp ha).elim (fun e => ⟨_, e ▸ h⟩) (OwnL.there r a)
  | _, _, _, _, .ins h _ r, a, ha => (List.mem_cons.mp ha).elim (fun e => ⟨_, e ▸ h⟩) (OwnL.there r a)
  | _, _, _, _, .lkt h, a, ha => ⟨_, (List.mem_singleton.mp ha) ▸ h⟩
theorem OwnL.there : ∀ {m : Nat} {vs : List V} {ds : List D} {A : List Addr}, OwnL K Hz H m vs ds A → ∀ a ∈ A, ∃ o, H a = some o
  | _, _, _, _, .nil, a, ha => absurd ha (by simp)
  | _, _, _, _, .cons h r, a, ha => (List.mem_append.mp ha).elim (Own.there h a) (OwnL.there r a)
end
mutual
/-- what is owned is a tree of the heap -/
theorem Own.rp (e : Ex Hz H) : ∀ {m : Nat} {v : V} {d : D} {A : List Addr}, Own K Hz H m v d A → Rp K H v d
  | _, _, _, _, .fz _ r => r.mono e
  | _, _, _, _, .lst h r => .lst h (OwnL.rp e r)
  | _, _, _, _, .dk h l r => .dk h l (OwnL.rp e r)
  | _, _, _, _, .dt h l r => .dt h l (OwnL.rp e r)
  | _, _, _, _, .ins h l r => .ins h l (OwnL.rp e r)
  | _, _, _, _, .lkt h => .lkt h
theorem OwnL.rp (e : Ex Hz H) : ∀ {m : Nat} {vs : List V} {ds : List D} {A : List Addr}, OwnL K Hz H m vs ds A → RpL K H vs ds
  | _, _, _, _, .nil => .nil
  | _, _, _, _, .cons h r => .cons (Own.rp e h) (OwnL.rp e r)
end
theorem Own.zero {v : V} {d : D} {A : List Addr} (h : Own K Hz H 0 v d A) : A = [] ∧ Rp K Hz v d := by
  cases h with
  | fz _ r => exact ⟨rfl, r⟩
theorem OwnL.zero : ∀ {vs : List V} {ds : List D} {A : List Addr}, OwnL K Hz H 0 vs ds A → A = [] ∧ RpL K Hz vs ds
  | _, _, _, .nil => ⟨rfl, .nil⟩
  | _, _, _, .cons h r => by
    obtain ⟨rfl, h1⟩ := h.zero
    obtain ⟨rfl, h2⟩ := OwnL.zero r
    exact ⟨rfl, .cons h1 h2⟩
theorem Own.imm {m : Nat} {v : V} {d : D} {A : List Addr} (i : immut d = true) (h : Own K Hz H m v d A) : A = [] ∧ Rp K Hz v d := by
  cases h with
  | fz _ r => exact ⟨rfl, r⟩
  | lst => cases i
  | dk => cases i
  | dt => cases i
  | ins => cases i
  | lkt => cases i
theorem OwnL.of_zero (m : Nat) : ∀ {vs : List V} {ds : List D}, RpL K Hz vs ds → OwnL K Hz H 0 vs ds []
  | _, _, .nil => .nil
  | _, _, .cons h r => OwnL.cons (A := []) (B := []) (.fz (.inl rfl) h) (OwnL.of_zero m r)
theorem OwnL.length : ∀ {m : Nat} {vs : List V} {ds : List D} {A : List Addr}, OwnL K Hz H m vs ds A → vs.length = ds.length
  | _, _, _, _, .nil => rfl
  | _, _, _, _, .cons _ r => congrArg Nat.succ (OwnL.length r)
theorem OwnL.append : ∀ {m : Nat} {vs ws : List V} {ds es : List D} {A B : List Addr}, OwnL K Hz H m vs ds A → OwnL K Hz H m ws es B → OwnL K Hz H m (vs ++ ws) (ds ++ es) (A ++ B)
  | _, _, _, _, _, _, _, .nil, s => s
  | _, _, _, _, _, _, _, .cons (A := A) (B := B) h r, s => by
    rw [List.append_assoc]
    exact .cons h (OwnL.append r s)

/-- the frozen part grows by what the addresses hold -/
def grow (Hz H : Hp) (A : List Addr) : Hp := fun a => if a ∈ A then H a else Hz a
theorem grow_in {A : List Addr} {a : Addr} (h : a ∈ A) : grow Hz H A a = H a := if_pos h
theorem grow_out {A : List Addr} {a : Addr} (h : a ∉ A) : grow Hz H A a = Hz a := if_neg h
theorem grow_ex {A : List Addr} (h : ∀ a ∈ A, Hz a = none) : Ex Hz (grow Hz H A) := fun a o e => by
  rw [grow_out (fun z => by rw [h a z] at e; cases e)]; exact e
theorem grow_le {A : List Addr} (e : Ex Hz H) : Ex (grow Hz H A) H := fun a o h => by
  by_cases z : a ∈ A
  · rw [grow_in z] at h; exact h
  · rw [grow_out z] at h; exact e a o h
mutual
/-- frozen whole -/
theorem Own.frozen (ez : Ex Hz Hz') : ∀ {m : Nat} {v : V} {d : D} {A : List Addr}, (∀ a ∈ A, Hz' a = H a) → Own K Hz H m v d A → Rp K Hz' v d
  | _, _, _, _, _, .fz _ r => r.mono ez
  | _, _, _, _, k, .lst h r => .lst ((k _ List.mem_cons_self).trans h) (OwnL.frozen ez (fun a ha => k a (List.mem_cons_of_mem _ ha)) r)
  | _, _, _, _, k, .dk h l r => .dk ((k _ List.mem_cons_self).trans h) l (OwnL.frozen ez (fun a ha => k a (List.mem_cons_of_mem _ ha)) r)
  | _, _, _, _, k, .dt h l r => .dt ((k _ List.mem_cons_self).trans h) l (OwnL.frozen ez (fun a ha => k a (List.mem_cons_of_mem _ ha)) r)
  | _, _, _, _, k, .ins h l r => .ins ((k _ List.mem_cons_self).trans h) l (OwnL.frozen ez (fun a ha => k a (List.mem_cons_of_mem _ ha)) r)
  | _, _, _, _, k, .lkt h => .lkt ((k _ List.mem_cons_self).trans h)
theorem OwnL.frozen (ez : Ex Hz Hz') : ∀ {m : Nat} {vs : List V} {ds : List D} {A : List Addr}, (∀ a ∈ A, Hz' a = H a) → OwnL K Hz H m vs ds A → RpL K Hz' vs ds
  | _, _, _, _, _, .nil => .nil
  | _, _, _, _, k, .cons h r => .cons (Own.frozen ez (fun a ha => k a (List.mem_append_left _ ha)) h) (OwnL.frozen ez (fun a ha => k a (List.mem_append_right _ ha)) r)
end
/-- the owned levels are cut to j: B stays owned, F is frozen -/
def Cut (K : PySem.W.Frag) (Hz H : Hp) (j : Nat) (v : V) (d : D) (A : List Addr) : Prop :=
  ∃ B F : List Addr, A.Perm (B ++ F) ∧ ∀ Hz', Ex Hz Hz' → (∀ a ∈ F, Hz' a = H a) → Own K Hz' H j v d B
def CutL (K : PySem.W.Frag) (Hz H : Hp) (j : Nat) (vs : List V) (ds : List D) (A : List Addr) : Prop :=
  ∃ B F : List Addr, A.Perm (B ++ F) ∧ ∀ Hz', Ex Hz Hz' → (∀ a ∈ F, Hz' a = H a) → OwnL K Hz' H j vs ds B
theorem Cut.whole {m : Nat} {v : V} {d : D} {A : List Addr} (h : Own K Hz H m v d A) : Cut K Hz H 0 v d A :=
  ⟨[], A, List.Perm.refl _, fun Hz' ez k => .fz (.inl rfl) (h.frozen ez k)⟩
mutual
theorem Own.cut : ∀ {m : Nat} (j : Nat) {v : V} {d : D} {A : List Addr}, j ≤ m → Own K Hz H m v d A → Cut K Hz H j v d A
  | _, j, _, _, _, hj, .fz c r => ⟨[], [], List.Perm.refl _, fun Hz' ez _ => .fz (c.imp (fun e => by omega) id) (r.mono ez)⟩
  | _, 0, _, _, _, _, .lst h r => Cut.whole (.lst h r)
  | _, 0, _, _, _, _, .dk h l r => Cut.whole (.dk h l r)
  | _, 0, _, _, _, _, .dt h l r => Cut.whole (.dt h l r)
  | _, 0, _, _, _, _, .ins h l r => Cut.whole (.ins h l r)
  | _, 0, _, _, _, _, .lkt h => Cut.whole (m := 1) (.lkt h)
  | _, j + 1, _, _, _, hj, .lkt h => ⟨[_], [], List.Perm.refl _, fun Hz' ez k => .lkt h⟩
  | _, j + 1, _, _, _, hj, .lst h r => by
    obtain ⟨B, F, p, q⟩ := OwnL.cut j (by omega) r
    exact ⟨_ :: B, F, p.cons _, fun Hz' ez k => .lst h (q Hz' ez k)⟩
  | _, j + 1, _, _, _, hj, .dk h l r => by
    obtain ⟨B, F, p, q⟩ := OwnL.cut j (by omega) r
    exact ⟨_ :: B, F, p.cons _, fun Hz' ez k => .dk h l (q Hz' ez k)⟩
  | _, j + 1, _, _, _, hj, .dt h l r => by
    obtain ⟨B, F, p, q⟩ := OwnL.cut j (by omega) r
    exact ⟨_ :: B, F, p.cons _, fun Hz' ez k => .dt h l (q Hz' ez k)⟩
  | _, j + 1, _, _, _, hj, .ins h l r => by
    obtain ⟨B, F, p, q⟩ := OwnL.cut j (by omega) r
    exact ⟨_ :: B, F, p.cons _, fun Hz' ez k => .ins h l (q Hz' ez k)⟩
theorem OwnL.cut : ∀ {m : Nat} (j : Nat) {vs : List V} {ds : List D} {A : List Addr}, j ≤ m → OwnL K Hz H m vs ds A → CutL K Hz H j vs ds A
  | _, j, _, _, _, hj, .nil => ⟨[], [], List.Perm.refl _, fun _ _ _ => .nil⟩
  | _, j, _, _, _, hj, .cons h r => by
    obtain ⟨B, F, p, q⟩ := Own.cut j hj h
    obtain ⟨B', F', p', q'⟩ := OwnL.cut j hj r
    refine ⟨B ++ B', F ++ F', ?_, fun Hz' ez k => .cons (q Hz' ez fun a ha => k a (List.mem_append_left _ ha)) (q' Hz' ez fun a ha => k a (List.mem_append_right _ ha))⟩
    refine (p.append p').trans ?_
    rw [List.append_assoc, List.append_assoc, ← List.append_assoc F B' F', ← List.append_assoc B' F F']
    exact (List.perm_append_comm.append_right _).append_left _
end
end

/-! ### entries -/
structure Ent where
  v : V
  m : Nat
  d : D
inductive OwnE (K : PySem.W.Frag) (Hz H : Hp) : List Ent → List Addr → Prop
  | nil : OwnE K Hz H [] []
  | cons {e : Ent} {es : List Ent} {A B : List Addr} : Own K Hz H e.m e.v e.d A → OwnE K Hz H es B → OwnE K Hz H (e :: es) (A ++ B)
/-- the entries lie in H: the frozen parts in Hz, the owned ones apart from it and from one another -/
structure R (K : PySem.W.Frag) (es : List Ent) (Hz H : Hp) : Prop where
  ex : Ex Hz H
  own : ∃ A, OwnE K Hz H es A ∧ A.Nodup ∧ ∀ a ∈ A, Hz a = none
section
variable {K : PySem.W.Frag} {Hz Hz' H H' : Hp} {e : Ent} {es fs : List Ent}
theorem OwnE.mono (ez : Ex Hz Hz') : ∀ {es : List Ent} {A : List Addr}, (∀ a ∈ A, H' a = H a) → OwnE K Hz H es A → OwnE K Hz' H' es A
  | _, _, _, .nil => .nil
  | _, _, k, .cons h r => .cons (Own.mono ez (fun a ha => k a (List.mem_append_left _ ha)) h) (OwnE.mono ez (fun a ha => k a (List.mem_append_right _ ha)) r)
theorem OwnE.there : ∀ {es : List Ent} {A : List Addr}, OwnE K Hz H es A → ∀ a ∈ A, ∃ o, H a = some o
  | _, _, .nil, a, ha => absurd ha (by simp)
  | _, _, .cons h r, a, ha => (List.mem_append.mp ha).elim (h.there a) (OwnE.there r a)
theorem OwnE.perm {es fs : List Ent} (p : es.Perm fs) : ∀ {A : List Addr}, OwnE K Hz H es A → ∃ B, OwnE K Hz H fs B ∧ A.Perm B := by
  induction p with
  | nil => intro A h; exact ⟨A, h, List.Perm.refl _⟩
  | cons x _ ih =>
    intro A h
    cases h with
    | cons h r =>
      obtain ⟨B, b, q⟩ := ih r
      exact ⟨_, .cons h b, q.append_left _⟩
  | swap x y l =>
    intro A h
    cases h with
    | cons h r =>
      cases r with
      | cons h2 r =>
        refine ⟨_, .cons h2 (.cons h r), ?_⟩
        rw [← List.append_assoc, ← List.append_assoc]
        exact List.perm_append_comm.append_right _
  | trans _ _ ih1 ih2 =>
    intro A h
    obtain ⟨B, b, q⟩ := ih1 h
    obtain ⟨C, c, q2⟩ := ih2 b
    exact ⟨C, c, q.trans q2⟩
theorem R.perm (h : R K es Hz H) (p : es.Perm fs) : R K fs Hz H := by
  obtain ⟨ex, A, o, n, z⟩ := h
  obtain ⟨B, b, q⟩ := o.perm p
  exact ⟨ex, B, b, q.nodup_iff.mp n, fun a ha => z a (q.mem_iff.mpr ha)⟩
theorem R.tail (h : R K (e :: es) Hz H) : R K es Hz H := by
  obtain ⟨ex, A, o, n, z⟩ := h
  cases o with
  | cons h r => exact ⟨ex, _, r, (List.nodup_append.mp n).2.1, fun a ha => z a (List.mem_append_right _ ha)⟩
theorem OwnE.append : ∀ {es fs : List Ent} {A B : List Addr}, OwnE K Hz H es A → OwnE K Hz H fs B → OwnE K Hz H (es ++ fs) (A ++ B)
  | _, _, _, _, .nil, s => s
  | _, _, _, _, .cons (A := A) (B := B) h r, s => by
    rw [List.append_assoc]
    exact .cons h (OwnE.append r s)
theorem R.right : ∀ {es : List Ent}, R K (es ++ fs) Hz H → R K fs Hz H
  | [], h => h
  | e :: es, h => R.right (es := es) h.tail
/-- an entry without addresses -/
theorem R.put {m : Nat} {v : V} {d : D} (c : m = 0 ∨ immut d = true) (r : Rp K Hz v d) (h : R K es Hz H) : R K (⟨v, m, d⟩ :: es) Hz H := by
  obtain ⟨ex, A, o, n, z⟩ := h
  exact ⟨ex, _, .cons (A := []) (.fz c r) o, n, z⟩
theorem R.head (h : R K (e :: es) Hz H) : ∃ A, Own K Hz H e.m e.v e.d A := by
  obtain ⟨ex, A, o, n, z⟩ := h
  cases o with
  | cons h r => exact ⟨_, h⟩
theorem R.rp (h : R K (e :: es) Hz H) : Rp K H e.v e.d := by
  obtain ⟨A, a⟩ := h.head
  exact a.rp h.ex
theorem R.rp0 {v : V} {d : D} (h : R K (⟨v, 0, d⟩ :: es) Hz H) : Rp K Hz v d := by
  obtain ⟨A, a⟩ := h.head
  exact a.zero.2
theorem R.imm {v : V} {m : Nat} {d : D} (i : immut d = true) (h : R K (⟨v, m, d⟩ :: es) Hz H) : Rp K Hz v d := by
  obtain ⟨A, a⟩ := h.head
  exact (a.imm i).2
/-- all of the heap but what is owned may have grown; the frozen part too -/
theorem R.keep (h : R K es Hz H) (ez : Ex Hz Hz') (e : Ex Hz' H') (k : ∀ a o, H a = some o → Hz' a = none → H' a = some o) (d : ∀ a, Hz a = none → (∃ o, H a = some o) → Hz' a = none) : R K es Hz' H' := by
  obtain ⟨ex, A, o, n, z⟩ := h
  have kk : ∀ a ∈ A, H' a = H a := fun a ha => by
    obtain ⟨ob, q⟩ := o.there a ha
    rw [q]
    exact k a ob q (d a (z a ha) ⟨ob, q⟩)
  exact ⟨e, A, o.mono ez kk, n, fun a ha => d a (z a ha) (o.there a ha)⟩
/-- the heap has grown -/
theorem R.ext (h : R K es Hz H) (e : Ex H H') : R K es Hz H' := h.keep (Ex.refl _) (h.ex.trans e) (fun a o q _ => e a o q) fun a z _ => z
/-- the head entry with fewer owned levels -/
theorem R.weaken {v : V} {m : Nat} {d : D} (j : Nat) (hj : j ≤ m ∨ immut d = true) (h : R K (⟨v, m, d⟩ :: es) Hz H) : ∃ Hz', Ex Hz Hz' ∧ R K (⟨v, j, d⟩ :: es) Hz' H := by
  obtain ⟨ex, A, o, n, z⟩ := h
  cases o with
  | @cons _ _ A B h r =>
    by_cases i : immut d = true
    · obtain ⟨q1, q2⟩ := h.imm i
      subst q1
      exact ⟨Hz, Ex.refl _, ex, _, .cons (A := []) (.fz (.inr i) q2) r, n, z⟩
    · obtain ⟨C, F, p, q⟩ := h.cut j (hj.elim id fun w => absurd w i)
      have p2 : (A ++ B).Perm (F ++ (C ++ B)) := by
        refine (p.append_right B).trans ?_
        rw [← List.append_assoc]
        exact List.perm_append_comm.append_right _
      have n2 := p2.nodup_iff.mp n
      obtain ⟨n3, n4, n5⟩ := List.nodup_append.mp n2
      have zF : ∀ a ∈ F, Hz a = none := fun a ha => z a (p2.mem_iff.mpr (List.mem_append_left _ ha))
      refine ⟨grow Hz H F, grow_ex zF, grow_le ex, C ++ B, .cons (q _ (grow_ex zF) fun a ha => grow_in ha) (r.mono (grow_ex zF) fun _ _ => rfl), n4, fun a ha => ?_⟩
      rw [grow_out fun w => n5 a w a ha rfl]
      exact z a (p2.mem_iff.mpr (List.mem_append_right _ ha))
/-- a new object, its children what stood at the front -/
theorem R.alloc {p : Addr} {o : HO} {m : Nat} {d : D} {fs : List Ent} (h : R K (fs ++ es) Hz H) (hp : H p = none)
    (mk : ∀ A, OwnE K Hz (upd H p o) fs A → Own K Hz (upd H p o) (m + 1) (.ref p) d (p :: A)) : R K (⟨.ref p, m + 1, d⟩ :: es) Hz (upd H p o) := by
  obtain ⟨ex, A, o', n, z⟩ := h
  have sp : ∀ {fs : List Ent} {A : List Addr}, OwnE K Hz H (fs ++ es) A → ∃ B C, A = B ++ C ∧ OwnE K Hz H fs B ∧ OwnE K Hz H es C := by
    intro fs
    induction fs with
    | nil => intro A h; exact ⟨[], A, rfl, .nil, h⟩
    | cons e fs ih =>
      intro A h
      cases h with
      | cons h r =>
        obtain ⟨B, C, rfl, b, c⟩ := ih r
        exact ⟨_, C, by rw [List.append_assoc], .cons h b, c⟩
  obtain ⟨B, C, rfl, b, c⟩ := sp o'
  have out : ∀ {L : List Ent} {A : List Addr}, OwnE K Hz H L A → ∀ a ∈ A, upd H p o a = H a := fun hL a ha => by
    obtain ⟨ob, q⟩ := hL.there a ha
    exact upd_ne (ne_of_none q hp)
  have pn : p ∉ B ++ C := fun hm => by
    obtain ⟨ob, q⟩ := o'.there p hm
    rw [hp] at q; cases q
  refine ⟨ex.trans (Ex.new hp), _, .cons (mk B (b.mono (Ex.refl _) (out b))) (c.mono (Ex.refl _) (out c)), ?_, fun a ha => ?_⟩
  · rw [List.cons_append]
    exact List.nodup_cons.mpr ⟨pn, n⟩
  · rw [List.cons_append] at ha
    rcases List.mem_cons.mp ha with e | ha
    · rw [e]; exact ex.none hp
    · exact z a ha
/-- a new immutable object: it is frozen at once -/
theorem R.allocZ {p : Addr} {o : HO} (h : R K es Hz H) (hp : H p = none) : Ex Hz (upd Hz p o) ∧ R K es (upd Hz p o) (upd H p o) := by
  have hz : Hz p = none := h.ex.none hp
  refine ⟨Ex.new hz, h.keep (Ex.new hz) (fun a ob q => ?_) (fun a ob q _ => ?_) fun a z ⟨ob, q⟩ => ?_⟩
  · by_cases e : a = p
    · subst e; rw [upd_same] at q ⊢; exact q
    · rw [upd_ne e] at q ⊢; exact h.ex a ob q
  · rw [upd_ne (ne_of_none q hp)]; exact q
  · rw [upd_ne (ne_of_none q hp)]; exact z
/-- the owned object of the head entry is changed -/
theorem R.change {a : Addr} {o : HO} {v : V} {m : Nat} {d d' : D} {fs : List Ent} {B : List Addr} (h : R K (⟨v, m, d⟩ :: (fs ++ es)) Hz H) (ha : Own K Hz H m v d (a :: B))
    (mk : ∀ A C, Own K Hz H m v d A → OwnE K Hz H fs C → (A ++ C).Nodup → (∀ b ∈ A ++ C, Hz b = none) → ∃ A', A'.Sublist (A ++ C) ∧ Own K Hz (upd H a o) m v d' A' ∧ a ∈ A ∧ a ∉ C) : R K (⟨v, m, d'⟩ :: es) Hz (upd H a o) := by
  obtain ⟨ex, A, o', n, z⟩ := h
  cases o' with
  | @cons _ _ A1 B1 h r =>
    have sp : ∀ {fs : List Ent} {A : List Addr}, OwnE K Hz H (fs ++ es) A → ∃ B C, A = B ++ C ∧ OwnE K Hz H fs B ∧ OwnE K Hz H es C := by
      intro fs
      induction fs with
      | nil => intro A h; exact ⟨[], A, rfl, .nil, h⟩
      | cons e fs ih =>
        intro A h
        cases h with
        | cons h r =>
          obtain ⟨B, C, rfl, b, c⟩ := ih r
          exact ⟨_, C, by rw [List.append_assoc], .cons h b, c⟩
    obtain ⟨B2, C2, rfl, b, c⟩ := sp r
    rw [← List.append_assoc] at n z
    obtain ⟨n1, n2, n3⟩ := List.nodup_append.mp n
    obtain ⟨A', sub, own, inA, _⟩ := mk A1 B2 h b n1 fun x hx => z x (List.mem_append_left _ hx)
    have ac : a ∉ C2 := fun hm => n3 a (List.mem_append_left _ inA) a hm rfl
    have hz : Hz a = none := z a (List.mem_append_left _ (List.mem_append_left _ inA))
    refine ⟨ex.mut hz, A' ++ C2, .cons own (c.mono (Ex.refl _) fun x hx => upd_ne fun e => ac (e ▸ hx)), ?_, fun x hx => ?_⟩
    · exact n.sublist (sub.append_right _)
    · rcases List.mem_append.mp hx with q | q
      · exact z x (List.mem_append_left _ (sub.subset q))
      · exact z x (List.mem_append_right _ q)
end
end Pd
end
section
/-! Pd: what an expression, a statement comes to on trees; and what that says of the machine. -/
namespace Pd
open PySem L2

/-- a value at hand: q levels are changeable; b: they are another's (a variable's), who may be asked but not handed on -/
structure RV where
  q : Nat
  b : Bool
  d : D
abbrev Slot := Option (Nat × D)
abbrev Vr := List Slot
inductive RE where
  | ok (x : RV) (ρ : Vr)
  | exc (C : Nm) (ns : List Nm) (xs : List D) (ρ : Vr)
  | stuck
inductive RS where
  | nx (ρ : Vr)
  | rt (x : RV) (ρ : Vr)
  | bk (ρ : Vr)
  | ct (ρ : Vr)
  | exc (C : Nm) (ns : List Nm) (xs : List D) (ρ : Vr)
  | stuck
inductive RC where
  | ok (x : RV) (outs : List Slot)
  | exc (C : Nm) (ns : List Nm) (xs : List D)
  | stuck
abbrev EF := Vr → RE
abbrev SF := Vr → RS
@[simp] def RE.bind (r : RE) (f : RV → EF) : RE := match r with
  | .ok x ρ => f x ρ
  | .exc C ns xs ρ => .exc C ns xs ρ
  | .stuck => .stuck
@[simp] def RE.bindS (r : RE) (f : RV → SF) : RS := match r with
  | .ok x ρ => f x ρ
  | .exc C ns xs ρ => .exc C ns xs ρ
  | .stuck => .stuck
/-- a value that nobody can change -/
abbrev pureV (d : D) : RV := ⟨0, false, d⟩

inductive Slots : L2.St → Vr → List Ent → Prop
  | nil : Slots [] [] []
  | no {x : Option V} {σ : L2.St} {ρ : Vr} {es : List Ent} : Slots σ ρ es → Slots (x :: σ) (none :: ρ) es
  | so {v : V} {m : Nat} {d : D} {σ : L2.St} {ρ : Vr} {es : List Ent} : Slots σ ρ es → Slots (some v :: σ) (some (m, d) :: ρ) (⟨v, m, d⟩ :: es)
theorem Slots.len : ∀ {σ : L2.St} {ρ : Vr} {es : List Ent}, Slots σ ρ es → σ.length = ρ.length
  | _, _, _, .nil => rfl
  | _, _, _, .no h => congrArg Nat.succ (Slots.len h)
  | _, _, _, .so h => congrArg Nat.succ (Slots.len h)
theorem Slots.take : ∀ {σ : L2.St} {ρ : Vr} {es : List Ent} {i : Nat} {m : Nat} {d : D}, Slots σ ρ es → ρ[i]? = some (some (m, d)) →
    ∃ v es', σ[i]? = some (some v) ∧ es.Perm (⟨v, m, d⟩ :: es') ∧ Slots σ (ρ.set i none) es'
  | _, _, _, _, _, _, .nil, e => by simp at e
  | _, _, _, 0, _, _, .no _, e => by simp at e
  | _, _, _, 0, _, _, .so h, e => by
    simp at e
    obtain ⟨rfl, rfl⟩ := e
    exact ⟨_, _, rfl, List.Perm.refl _, .no h⟩
  | _, _, _, i + 1, _, _, .no h, e => by
    obtain ⟨v, es', h1, h2, h3⟩ := Slots.take (i := i) h (by simpa using e)
    exact ⟨v, es', by simpa using h1, h2, .no h3⟩
  | _, _, _, i + 1, _, _, .so h, e => by
    obtain ⟨v, es', h1, h2, h3⟩ := Slots.take (i := i) h (by simpa using e)
    exact ⟨v, _, by simpa using h1, (h2.cons _).trans (List.Perm.swap _ _ _), .so h3⟩
theorem Slots.put {v : V} {m : Nat} {d : D} : ∀ {σ : L2.St} {ρ : Vr} {es : List Ent} {i : Nat}, Slots σ ρ es → ρ[i]? = some none → σ[i]? = some (some v) →
    ∃ es', Slots σ (ρ.set i (some (m, d))) es' ∧ es'.Perm (⟨v, m, d⟩ :: es)
  | _, _, _, _, .nil, e, _ => by simp at e
  | _, _, _, 0, .no h, _, e2 => by
    simp at e2
    subst e2
    exact ⟨_, .so h, List.Perm.refl _⟩
  | _, _, _, 0, .so _, e, _ => by simp at e
  | _, _, _, i + 1, .no h, e, e2 => by
    obtain ⟨es', h1, h2⟩ := Slots.put (i := i) h (by simpa using e) (by simpa using e2)
    exact ⟨es', .no h1, h2⟩
  | _, _, _, i + 1, .so h, e, e2 => by
    obtain ⟨es', h1, h2⟩ := Slots.put (i := i) h (by simpa using e) (by simpa using e2)
    exact ⟨_, .so h1, (h2.cons _).trans (List.Perm.swap _ _ _)⟩
/-- a slot is stored: what it held is dropped -/
theorem Slots.store {v : V} {m : Nat} {d : D} : ∀ {σ : L2.St} {ρ : Vr} {es : List Ent} {i : Nat}, Slots σ ρ es → i < ρ.length →
    ∃ es1 dr es', Slots (σ.set i (some v)) (ρ.set i (some (m, d))) es' ∧ es'.Perm (⟨v, m, d⟩ :: es1) ∧ es.Perm (dr ++ es1)
  | _, _, _, _, .nil, e => by simp at e
  | _, _, _, 0, .no h, _ => ⟨_, [], _, .so h, List.Perm.refl _, List.Perm.refl _⟩
  | _, _, _, 0, .so h, _ => ⟨_, [_], _, .so h, List.Perm.refl _, List.Perm.refl _⟩
  | _, _, _, i + 1, .no h, e => by
    obtain ⟨es1, dr, es', h1, h2, h3⟩ := Slots.store (i := i) h (by simpa using e)
    exact ⟨es1, dr, es', .no h1, h2, h3⟩
  | _, _, _, i + 1, .so (v := w) (m := n) (d := c) h, e => by
    obtain ⟨es1, dr, es', h1, h2, h3⟩ := Slots.store (i := i) h (by simpa using e)
    exact ⟨⟨w, n, c⟩ :: es1, dr, _, .so h1, (h2.cons _).trans (List.Perm.swap _ _ _), (h3.cons _).trans List.perm_middle.symm⟩
/-- a slot is forgotten -/
theorem Slots.drop {x : Option V} : ∀ {σ : L2.St} {ρ : Vr} {es : List Ent} {i : Nat}, Slots σ ρ es → ∃ es' dr, Slots (σ.set i x) (ρ.set i none) es' ∧ es.Perm (dr ++ es')
  | _, _, _, _, .nil => ⟨[], [], .nil, List.Perm.refl _⟩
  | _, _, _, 0, .no h => ⟨_, [], .no h, List.Perm.refl _⟩
  | _, _, _, 0, .so h => ⟨_, [_], .no h, List.Perm.refl _⟩
  | _, _, _, i + 1, .no h => by
    obtain ⟨es', dr, h1, h2⟩ := Slots.drop (x := x) (i := i) h
    exact ⟨es', dr, .no h1, h2⟩
  | _, _, _, i + 1, .so (v := w) (m := n) (d := c) h => by
    obtain ⟨es', dr, h1, h2⟩ := Slots.drop (x := x) (i := i) h
    exact ⟨⟨w, n, c⟩ :: es', dr, .so h1, (h2.cons _).trans List.perm_middle.symm⟩

section
variable {K : PySem.W.Frag} {Hz Hz' H H' : Hp} {es fs Fr : List Ent} {v : V} {x : RV}
/-- the value at hand lies there -/
def View (K : PySem.W.Frag) (Hz H : Hp) (v : V) (x : RV) : Prop := ∃ A, Own K Hz H x.q v x.d A
def RVok (K : PySem.W.Frag) (Hz H : Hp) (v : V) (x : RV) (es : List Ent) : Prop := if x.b = true then R K es Hz H ∧ View K Hz H v x else R K (⟨v, x.q, x.d⟩ :: es) Hz H
theorem RVok.rest (h : RVok K Hz H v x es) : R K es Hz H := by
  unfold RVok at h
  split at h
  · exact h.1
  · exact h.tail
theorem RVok.view (h : RVok K Hz H v x es) : View K Hz H v x := by
  unfold RVok at h
  split at h
  · exact h.2
  · exact h.head
theorem RVok.own (h : RVok K Hz H v x es) (hb : x.b = false) : R K (⟨v, x.q, x.d⟩ :: es) Hz H := by
  unfold RVok at h
  rw [hb] at h
  exact h
theorem RVok.of (hb : x.b = false) (h : R K (⟨v, x.q, x.d⟩ :: es) Hz H) : RVok K Hz H v x es := by
  unfold RVok
  rw [hb]
  exact h
theorem RVok.pure {d : D} (r : Rp K Hz v d) (h : R K es Hz H) : RVok K Hz H v (pureV d) es := .of rfl (h.put (.inl rfl) r)
theorem RVok.perm (h : RVok K Hz H v x es) (p : es.Perm fs) : RVok K Hz H v x fs := by
  unfold RVok at h ⊢
  split at h
  · rename_i hb; rw [if_pos hb]; exact ⟨h.1.perm p, h.2⟩
  · rename_i hb; rw [if_neg hb]; exact h.perm (p.cons _)
theorem View.mono (ez : Ex Hz Hz') (e : Ex H H') (h : View K Hz H v x) : View K Hz' H' v x := by
  obtain ⟨A, a⟩ := h
  refine ⟨A, a.mono ez (fun b hb => ?_)⟩
  obtain ⟨o, q⟩ := a.there b hb
  rw [q]; exact e b o q
theorem View.rp (e : Ex Hz H) (h : View K Hz H v x) : Rp K H v x.d := h.elim fun _ a => a.rp e
theorem View.rpz {d : D} {b : Bool} (h : View K Hz H v ⟨0, b, d⟩) : Rp K Hz v d := h.elim fun _ a => a.zero.2
theorem View.imm (i : immut x.d = true) (h : View K Hz H v x) : Rp K Hz v x.d := h.elim fun _ a => (a.imm i).2

/-- an exception lies: a class without fields, or its own dict -/
def ExcAt (K : PySem.W.Frag) (Hz : Hp) (ns : List Nm) (xs : List D) (dx : Option Addr) : Prop := match dx with
  | none => ns = [] ∧ xs = []
  | some d => ∃ vs, Hz d = some (.xd ((ns.map Nm.str).zip vs)) ∧ ns.length = vs.length ∧ RpL K Hz vs xs

/-- what is to follow an expression -/
def RetE (K : PySem.W.Frag) (Fr : List Ent) (σ : L2.St) (Hz H : Hp) (s : Bool) (W : WX) (r : RE) (Q : VK) : Prop := match r with
  | .ok x ρ' => ∀ v H' Hz' es', Ex Hz Hz' → (s = true → Ex H H') → Slots σ ρ' es' → RVok K Hz' H' v x (es' ++ Fr) → Q v H'
  | .exc C ns xs ρ' => ∀ dx H' Hz' es', Ex Hz Hz' → ExcAt K Hz' ns xs dx → Slots σ ρ' es' → R K (es' ++ Fr) Hz' H' → W (.ref (ca K C)) dx σ H'
  | .stuck => False
def tE (K : PySem.W.Frag) (W : WX) (s : Bool) (f : EF) : TE := fun σ H Q => ∃ ρ es Fr Hz, Slots σ ρ es ∧ R K (es ++ Fr) Hz H ∧ RetE K Fr σ Hz H s W (f ρ) Q
/-- a test -/
def tT (K : PySem.W.Frag) (W : WX) (s : Bool) (f : EF) : TT := fun σ H Q => ∃ ρ es Fr Hz, Slots σ ρ es ∧ R K (es ++ Fr) Hz H ∧ RetE K Fr σ Hz H s W (f ρ) (fun v H' => ∃ c, v = .bl c ∧ Q c H')
/-- an expression comes to f on the trees; s: it changes nothing that was there -/
abbrev SE (X : Cx) (W : WX) (s : Bool) (e : Expr) (f : EF) : Prop := PE X e (tE X.K W s f)
abbrev ST (X : Cx) (W : WX) (s : Bool) (e : Expr) (f : EF) : Prop := PT X e (tT X.K W s f)
end
theorem peImp {X : Cx} {e : Expr} {t t' : TE} (h : PE X e t) (i : ∀ σ H Q, t' σ H Q → t σ H Q) : PE X e t' := ⟨fun pins s σ H Q I q => h.run pins s σ H Q I (i σ H Q q)⟩
theorem ptImp {X : Cx} {e : Expr} {t t' : TT} (h : PT X e t) (i : ∀ σ H Q, t' σ H Q → t σ H Q) : PT X e t' := ⟨fun pins s σ H Q I q => h.run pins s σ H Q I (i σ H Q q)⟩
theorem psImp {X : Cx} {e : Stmt} {t t' : TS} (h : PS X e t) (i : ∀ D σ H, t' D σ H → t D σ H) : PS X e t' := ⟨fun pins s σ H D I q => h.run pins s σ H D I (i D σ H q)⟩
theorem pssImp {X : Cx} {e : List Stmt} {t t' : TS} (h : PSs X e t) (i : ∀ D σ H, t' D σ H → t D σ H) : PSs X e t' := ⟨fun pins s σ H D I q => h.run pins s σ H D I (i D σ H q)⟩

/-! ### names and constants -/
/-- a variable is asked -/
def eVar (i : Nat) : EF := fun ρ => match ρ[i]? with
  | some (some (m, d)) => if m = 0 ∨ immut d = true then .ok (pureV d) ρ else .ok ⟨m, true, d⟩ ρ
  | _ => .stuck
/-- a variable's value is handed on: from now on nobody changes it -/
def eUse (i : Nat) : EF := fun ρ => match ρ[i]? with
  | some (some (_, d)) => .ok (pureV d) (ρ.set i (some (0, d)))
  | _ => .stuck
/-- a variable's value is handed on for good -/
def eMv (i : Nat) : EF := fun ρ => match ρ[i]? with
  | some (some (m, d)) => .ok ⟨m, false, d⟩ (ρ.set i none)
  | _ => .stuck
def eC (d : D) : EF := fun ρ => .ok (pureV d) ρ
/-- frozen -/
def eFz (f : EF) : EF := fun ρ => (f ρ).bind fun x ρ => if x.b = true then .stuck else .ok (pureV x.d) ρ

section
variable {X : Cx} {W : WX} {s : Bool} {pos : Pos}
theorem mid {es fs gs : List Ent} {e : Ent} (p : es.Perm (e :: fs)) : (es ++ gs).Perm (e :: (fs ++ gs)) := p.append_right gs
theorem se_var (i : Nat) {x : Str} (hN : X.N[i]? = some x := by rfl) (hv : Vis X.env.scope x := by first | exact Or.inl rfl | exact Or.inr (Or.inl rfl) | exact Or.inr (Or.inr rfl)) (hd : (x == ("__debug__" : Str)) = false := by decide)
    (hcd : (x == ("__classdict__" : Str)) = false := by decide) : SE X W s (.Name x pos) (eVar i) := by
  refine peImp (pv i hN hv hd hcd) fun σ H Q ⟨ρ, es, Fr, Hz, S, r, q⟩ => ?_
  unfold eVar at q
  cases e : ρ[i]? with
  | none => rw [e] at q; exact q.elim
  | some o => cases o with
    | none => rw [e] at q; exact q.elim
    | some md =>
      obtain ⟨m, d⟩ := md
      rw [e] at q
      obtain ⟨v, es', h1, h2, h3⟩ := S.take e
      have r' := r.perm (mid h2)
      refine ⟨v, h1, ?_⟩
      dsimp only at q
      split at q
      · rename_i c
        refine q v H Hz es (Ex.refl _) (fun _ => Ex.refl _) S (.pure ?_ r)
        rcases c with c | c
        · subst c; exact r'.rp0
        · exact r'.imm c
      · refine q v H Hz es (Ex.refl _) (fun _ => Ex.refl _) S ?_
        exact ⟨r, r'.head⟩
theorem se_use (i : Nat) {x : Str} (hN : X.N[i]? = some x := by rfl) (hv : Vis X.env.scope x := by first | exact Or.inl rfl | exact Or.inr (Or.inl rfl) | exact Or.inr (Or.inr rfl)) (hd : (x == ("__debug__" : Str)) = false := by decide)
    (hcd : (x == ("__classdict__" : Str)) = false := by decide) : SE X W s (.Name x pos) (eUse i) := by
  refine peImp (pv i hN hv hd hcd) fun σ H Q ⟨ρ, es, Fr, Hz, S, r, q⟩ => ?_
  unfold eUse at q
  cases e : ρ[i]? with
  | none => rw [e] at q; exact q.elim
  | some o => cases o with
    | none => rw [e] at q; exact q.elim
    | some md =>
      obtain ⟨m, d⟩ := md
      rw [e] at q
      obtain ⟨v, es', h1, h2, h3⟩ := S.take e
      obtain ⟨Hz', ez, r'⟩ := (r.perm (mid h2)).weaken 0 (.inl (Nat.zero_le _))
      have hi : i < ρ.length := (List.getElem?_eq_some_iff.mp e).1
      obtain ⟨es2, S2, p2⟩ := h3.put (v := v) (m := 0) (d := d) (by rw [List.getElem?_set_self hi]) h1
      rw [List.set_set] at S2
      refine ⟨v, h1, q v H Hz' es2 ez (fun _ => Ex.refl _) S2 (.pure r'.rp0 (r'.perm (mid p2).symm))⟩
theorem se_mv (i : Nat) {x : Str} (hN : X.N[i]? = some x := by rfl) (hv : Vis X.env.scope x := by first | exact Or.inl rfl | exact Or.inr (Or.inl rfl) | exact Or.inr (Or.inr rfl)) (hd : (x == ("__debug__" : Str)) = false := by decide)
    (hcd : (x == ("__classdict__" : Str)) = false := by decide) : SE X W s (.Name x pos) (eMv i) := by
  refine peImp (pv i hN hv hd hcd) fun σ H Q ⟨ρ, es, Fr, Hz, S, r, q⟩ => ?_
  unfold eMv at q
  cases e : ρ[i]? with
  | none => rw [e] at q; exact q.elim
  | some o => cases o with
    | none => rw [e] at q; exact q.elim
    | some md =>
      obtain ⟨m, d⟩ := md
      rw [e] at q
      obtain ⟨v, es', h1, h2, h3⟩ := S.take e
      exact ⟨v, h1, q v H Hz es' (Ex.refl _) (fun _ => Ex.refl _) h3 (.of rfl (r.perm (mid h2)))⟩
theorem se_c {e : Expr} {v : V} {d : D} (h : PE X e (tC v)) (hd : ∀ H, Rp X.K H v d) : SE X W s e (eC d) := by
  refine peImp h fun σ H Q ⟨ρ, es, Fr, Hz, S, r, q⟩ => ?_
  exact q v H Hz es (Ex.refl _) (fun _ => Ex.refl _) S (.pure (hd Hz) r)
theorem se_int {i : Int} {j : Nat} : SE X W s (.Constant (.int i) j pos) (eC (.int i)) := se_c pe_int fun _ => .int i
theorem se_bl {b : Bool} {j : Nat} : SE X W s (.Constant (.bool b) j pos) (eC (.bl b)) := se_c pe_bl fun _ => .bl b
theorem se_non {j : Nat} : SE X W s (.Constant .none j pos) (eC .non) := se_c pe_non fun _ => .non
theorem se_str {x : Str} {j : Nat} : SE X W s (.Constant (.str x) j pos) (eC (.str x)) := se_c pe_str fun _ => .str x
theorem se_cls {x : Str} (C : Nm) (hg : Gl X x) (hm : X.mg x = some (.ref (ca X.K C))) (hd : (x == ("__debug__" : Str)) = false := by decide) : SE X W s (.Name x pos) (eC (.cls C)) := se_c (v := .ref (ca X.K C)) (pe_glob hg hm rfl hd) fun _ => .cls C
theorem se_fz {e : Expr} {f : EF} (h : SE X W s e f) : SE X W s e (eFz f) := by
  refine peImp h fun σ H Q ⟨ρ, es, Fr, Hz, S, r, q⟩ => ⟨ρ, es, Fr, Hz, S, r, ?_⟩
  unfold eFz at q
  cases e : f ρ with
  | stuck => rw [e] at q; exact q
  | exc C ns xs ρ' => rw [e] at q; exact q
  | ok x ρ' =>
    rw [e] at q
    dsimp only [RE.bind] at q
    intro v H' Hz' es' ez k S' o
    split at q
    · exact q.elim
    · rename_i hb
      obtain ⟨Hz2, ez2, r2⟩ := (o.own (by simpa using hb)).weaken 0 (.inl (Nat.zero_le _))
      exact q v H' Hz2 es' (ez.trans ez2) k S' (.of rfl r2)

/-! ### two operands, one -/
/-- what a two-place operation on values comes to -/
abbrev Op2 := RV → RV → Option RV
def opE (o : Option RV) (ρ : Vr) : RE := match o with
  | some z => .ok z ρ
  | none => .stuck
/-- sb: the second operand changes nothing that was there -/
def e2 (sb : Bool) (op : Op2) (fa fb : EF) : EF := fun ρ => (fa ρ).bind fun x ρ1 => if (x.b && !sb) = true then .stuck else (fb ρ1).bind fun y ρ2 => opE (op x y) ρ2
def OpOk (K : PySem.W.Frag) (r : R2) (op : Op2) : Prop := ∀ (v w : V) (x y z : RV) (es : List Ent) (Hz H : Hp) (Q : VK), R K es Hz H → View K Hz H v x → View K Hz H w y → op x y = some z →
  (∀ u H' Hz', Ex Hz Hz' → Ex H H' → RVok K Hz' H' u z es → Q u H') → r v w H Q
/-- two values in a row: what is needed of any construct that evaluates a, then b -/
theorem two {K : PySem.W.Frag} {sa sb : Bool} {fa fb : EF} {σ : L2.St} {H : Hp} {k : RV → RV → EF} {Q : VK} {Qk : V → V → Hp → Prop} {s : Bool}
    (h : tE K W s (fun ρ => (fa ρ).bind fun x ρ1 => if (x.b && !sb) = true then .stuck else (fb ρ1).bind fun y ρ2 => k x y ρ2) σ H Q) (hs : s = true → sa = true ∧ sb = true)
    (hk : ∀ v w x y ρ2 es2 Fr Hz2 H2 Hz0, Slots σ ρ2 es2 → R K (es2 ++ Fr) Hz2 H2 → View K Hz2 H2 v x → View K Hz2 H2 w y → Ex Hz0 Hz2 → (s = true → Ex H H2) → RetE K Fr σ Hz0 H s W (k x y ρ2) Q → Qk v w H2) :
    tE K W sa fa σ H fun v H1 => tE K W sb fb σ H1 fun w H2 => Qk v w H2 := by
  obtain ⟨ρ, es, Fr, Hz, S, r, q⟩ := h
  refine ⟨ρ, es, Fr, Hz, S, r, ?_⟩
  dsimp only at q
  cases e : fa ρ with
  | stuck => rw [e] at q; exact q
  | exc C ns xs ρ' => rw [e] at q; exact q
  | ok x ρ1 =>
    rw [e] at q
    dsimp only [RE.bind] at q
    intro v H1 Hz1 es1 ez1 k1 S1 o1
    split at q
    · exact q.elim
    · rename_i hb
      cases e2 : fb ρ1 with
      | stuck => rw [e2] at q; exact q.elim
      | exc C ns xs ρ' =>
        rw [e2] at q
        refine ⟨ρ1, es1, Fr, Hz1, S1, o1.rest, ?_⟩
        rw [e2]
        exact fun dx H' Hz' es' ez a b c => q dx H' Hz' es' (ez1.trans ez) a b c
      | ok y ρ2 =>
        rw [e2] at q
        dsimp only [RE.bind] at q
        by_cases hx : x.b = true
        · -- the first is another's: the second changes nothing
          have hsb : sb = true := by
            rw [hx] at hb
            cases sb
            · exact absurd rfl hb
            · rfl
          refine ⟨ρ1, es1, Fr, Hz1, S1, o1.rest, ?_⟩
          rw [e2]
          intro w H2 Hz2 es2 ez2 k2 S2 o2
          exact hk v w x y ρ2 es2 Fr Hz2 H2 Hz S2 o2.rest (o1.view.mono ez2 (k2 hsb)) o2.view (ez1.trans ez2) (fun z => (k1 (hs z).1).trans (k2 (hs z).2)) q
        · have o1' := o1.own (by simpa using hx)
          refine ⟨ρ1, es1, ⟨v, x.q, x.d⟩ :: Fr, Hz1, S1, o1'.perm List.perm_middle.symm, ?_⟩
          rw [e2]
          intro w H2 Hz2 es2 ez2 k2 S2 o2
          have r2 := o2.rest.perm (List.perm_middle (a := (⟨v, x.q, x.d⟩ : Ent)))
          exact hk v w x y ρ2 es2 Fr Hz2 H2 Hz S2 r2.tail r2.head o2.view (ez1.trans ez2) (fun z => (k1 (hs z).1).trans (k2 (hs z).2)) q
theorem fin2 {K : PySem.W.Frag} {σ : L2.St} {s : Bool} {o : Option RV} {ρ2 : Vr} {es2 Fr : List Ent} {Hz0 Hz2 H H2 : Hp} {Q : VK} {z : RV} (ho : o = some z) (ez : Ex Hz0 Hz2) (k : s = true → Ex H H2) (S2 : Slots σ ρ2 es2) (q : RetE K Fr σ Hz0 H s W (opE o ρ2) Q) :
    ∀ u H' Hz', Ex Hz2 Hz' → Ex H2 H' → RVok K Hz' H' u z (es2 ++ Fr) → Q u H' := by
  subst ho
  exact fun u H' Hz' e1 e2 o => q u H' Hz' es2 (ez.trans e1) (fun z => (k z).trans e2) S2 o
theorem opE_some {K : PySem.W.Frag} {σ : L2.St} {s : Bool} {o : Option RV} {ρ2 : Vr} {Fr : List Ent} {Hz H : Hp} {Q : VK} (q : RetE K Fr σ Hz H s W (opE o ρ2) Q) : ∃ z, o = some z := by
  cases o with
  | none => exact q.elim
  | some z => exact ⟨z, rfl⟩
variable {a b : Expr} {fa fb : EF} {sa sb : Bool}
theorem se_op {op : Operator} {r : R2} {o : Op2} (h : OpR X (binaryOp op) r) (ok : OpOk X.K r o) (ha : SE X W sa a fa) (hb : SE X W sb b fb) (hs : s = true → sa = true ∧ sb = true := by first | exact fun _ => ⟨rfl, rfl⟩ | (intro z; cases z)) : SE X W s (.BinOp a op b pos) (e2 sb o fa fb) := by
  refine peImp (pe_op h ha hb) fun σ H Q q => ?_
  refine two q hs fun v w x y ρ2 es2 Fr Hz2 H2 Hz0 S2 r2 v1 v2 ez k q2 => ?_
  obtain ⟨z, hz⟩ := opE_some q2
  exact ok v w x y z _ Hz2 H2 Q r2 v1 v2 hz (fin2 hz ez k S2 q2)
theorem se_cmp {op : CmpOp} {r : R2} {o : Op2} (h : OpR X (compareOp op) r) (ok : OpOk X.K r o) (ha : SE X W sa a fa) (hb : SE X W sb b fb) (hm : behindInMarks op b = false := by first | exact nomark _ | rfl) (hs : s = true → sa = true ∧ sb = true := by first | exact fun _ => ⟨rfl, rfl⟩ | (intro z; cases z)) : SE X W s (.Compare a [op] [b] pos) (e2 sb o fa fb) := by
  refine peImp (pe_cmpR h ha hb hm) fun σ H Q q => ?_
  refine two q hs fun v w x y ρ2 es2 Fr Hz2 H2 Hz0 S2 r2 v1 v2 ez k q2 => ?_
  obtain ⟨z, hz⟩ := opE_some q2
  exact ok v w x y z _ Hz2 H2 Q r2 v1 v2 hz (fin2 hz ez k S2 q2)
theorem st_cmp {op : CmpOp} {r : R2} {o : Op2} (h : OpR X (compareOp op) r) (ok : OpOk X.K r o) (ha : SE X W sa a fa) (hb : SE X W sb b fb) (hm : behindInMarks op b = false := by first | exact nomark _ | rfl) (hs : s = true → sa = true ∧ sb = true := by first | exact fun _ => ⟨rfl, rfl⟩ | (intro z; cases z)) : ST X W s (.Compare a [op] [b] pos) (e2 sb o fa fb) := by
  refine ptImp (pt_cmpR h ha hb hm) fun σ H Q q => ?_
  refine two q hs fun v w x y ρ2 es2 Fr Hz2 H2 Hz0 S2 r2 v1 v2 ez k q2 => ?_
  obtain ⟨z, hz⟩ := opE_some q2
  exact ok v w x y z _ Hz2 H2 _ r2 v1 v2 hz (fin2 hz ez k S2 q2)
/-- a value that is a truth, as a test -/
theorem st_val {e : Expr} {f : EF} (h : SE X W s e f) (he : ∀ whole, isTrue e X.env whole = (do let v ← whole; standAt e.pos; holding [v] (truthy v)) := by intro _; rfl) : ST X W s e f := by
  refine ptImp (pt_val h he) fun σ H Q q => q
end
end Pd
end
section
/-! Pd: operators on trees. -/
namespace Pd
open PySem L2
abbrev BIG : Nat := 1000000
theorem big_line {n : Nat} (h : n ≤ BIG) : n ≤ sizeLine := Nat.le_trans h (by decide)
theorem big_lt {n : Nat} (h : n < BIG) : n < sizeLine := Nat.lt_of_lt_of_le h (by decide)
section
variable {K : PySem.W.Frag} {Hz H : Hp} {es : List Ent} {v : V} {x : RV}
theorem View.int {i : Int} (h : View K Hz H v x) (e : x.d = .int i) : v = .int i := by
  have r := h.imm (by rw [e]; rfl)
  rw [e] at r; cases r; rfl
theorem View.bl {i : Bool} (h : View K Hz H v x) (e : x.d = .bl i) : v = .bl i := by
  have r := h.imm (by rw [e]; rfl)
  rw [e] at r; cases r; rfl
theorem View.str {i : Str} (h : View K Hz H v x) (e : x.d = .str i) : v = .str i := by
  have r := h.imm (by rw [e]; rfl)
  rw [e] at r; cases r; rfl
theorem View.non (h : View K Hz H v x) (e : x.d = .non) : v = .non := by
  have r := h.imm (by rw [e]; rfl)
  rw [e] at r; cases r; rfl
theorem View.tup {ds : List D} (h : View K Hz H v x) (e : x.d = .tup ds) : ∃ a vs, v = .ref a ∧ Hz a = some (.tup vs) ∧ RpL K Hz vs ds := by
  have r := h.imm (by rw [e]; rfl)
  rw [e] at r; cases r with
  | tup h1 h2 => exact ⟨_, _, rfl, h1, h2⟩
theorem View.frl {ds : List D} (h : View K Hz H v x) (e : x.d = .frl ds) : ∃ a vs, v = .ref a ∧ SqL K Hz a vs ∧ RpL K Hz vs ds := by
  have r := h.imm (by rw [e]; rfl)
  rw [e] at r; cases r with
  | frl h1 h2 => exact ⟨_, _, rfl, h1, h2⟩
/-- a list: its items are owned one level less -/
theorem View.lst {ds : List D} (ex : Ex Hz H) (h : View K Hz H v x) (e : x.d = .lst ds) : ∃ a vs A, v = .ref a ∧ H a = some (.lst vs) ∧ OwnL K Hz H (x.q - 1) vs ds A := by
  obtain ⟨q, b, d⟩ := x
  obtain ⟨A, a⟩ := h
  dsimp only at e a ⊢
  subst e
  cases a with
  | fz c r =>
    have hq : q = 0 := c.elim id fun z => by cases z
    subst hq
    cases r with
    | lst h1 h2 => exact ⟨_, _, _, rfl, ex _ _ h1, OwnL.of_zero 0 h2⟩
  | lst h1 h2 => exact ⟨_, _, _, rfl, h1, h2⟩
theorem View.dk {ks : List Key} {ds : List D} (ex : Ex Hz H) (h : View K Hz H v x) (e : x.d = .dk ks ds) : ∃ a vs A, v = .ref a ∧ H a = some (.dK (ks.zip vs)) ∧ ks.length = vs.length ∧ OwnL K Hz H (x.q - 1) vs ds A := by
  obtain ⟨q, b, d⟩ := x
  obtain ⟨A, a⟩ := h
  dsimp only at e a ⊢
  subst e
  cases a with
  | fz c r =>
    have hq : q = 0 := c.elim id fun z => by cases z
    subst hq
    cases r with
    | dk h1 l h2 => exact ⟨_, _, _, rfl, ex _ _ h1, l, OwnL.of_zero 0 h2⟩
  | dk h1 l h2 => exact ⟨_, _, _, rfl, h1, l, h2⟩
theorem View.dt {ks : List (List Key)} {ds : List D} (ex : Ex Hz H) (h : View K Hz H v x) (e : x.d = .dt ks ds) : ∃ a vs A, v = .ref a ∧ H a = some (.dT (ks.zip vs)) ∧ ks.length = vs.length ∧ OwnL K Hz H (x.q - 1) vs ds A := by
  obtain ⟨q, b, d⟩ := x
  obtain ⟨A, a⟩ := h
  dsimp only at e a ⊢
  subst e
  cases a with
  | fz c r =>
    have hq : q = 0 := c.elim id fun z => by cases z
    subst hq
    cases r with
    | dt h1 l h2 => exact ⟨_, _, _, rfl, ex _ _ h1, l, OwnL.of_zero 0 h2⟩
  | dt h1 l h2 => exact ⟨_, _, _, rfl, h1, l, h2⟩
theorem View.ins {C : Nm} {ns : List Nm} {ds : List D} (ex : Ex Hz H) (h : View K Hz H v x) (e : x.d = .ins C ns ds) : ∃ a dx vs A, v = .ref a ∧ H a = some (.ins (ca K C) dx ((ns.map Nm.str).zip vs)) ∧ ns.length = vs.length ∧ OwnL K Hz H (x.q - 1) vs ds A := by
  obtain ⟨q, b, d⟩ := x
  obtain ⟨A, a⟩ := h
  dsimp only at e a ⊢
  subst e
  cases a with
  | fz c r =>
    have hq : q = 0 := c.elim id fun z => by cases z
    subst hq
    cases r with
    | ins h1 l h2 => exact ⟨_, _, _, _, rfl, ex _ _ h1, l, OwnL.of_zero 0 h2⟩
  | ins h1 l h2 => exact ⟨_, _, _, _, rfl, h1, l, h2⟩
/-- at most one level: the items are frozen -/
theorem OwnL.one {q : Nat} {vs : List V} {ds : List D} {A : List Addr} (h : OwnL K Hz H (q - 1) vs ds A) (hq : q ≤ 1) : RpL K Hz vs ds := by
  have : q - 1 = 0 := by omega
  rw [this] at h
  exact h.zero.2
/-- a new list of frozen things -/
theorem new_lst {p : Addr} {vs : List V} {ds : List D} (r : R K es Hz H) (hp : H p = none) (l : RpL K Hz vs ds) : RVok K Hz (upd H p (.lst vs)) (.ref p) ⟨1, false, .lst ds⟩ es := by
  refine .of rfl (R.alloc (fs := []) (m := 0) r hp fun A hA => ?_)
  cases hA
  exact .lst upd_same (OwnL.of_zero 0 l)
/-- a new tuple of frozen things -/
theorem new_tup {p : Addr} {vs : List V} {ds : List D} (r : R K es Hz H) (hp : H p = none) (l : RpL K Hz vs ds) : Ex Hz (upd Hz p (.tup vs)) ∧ RVok K (upd Hz p (.tup vs)) (upd H p (.tup vs)) (.ref p) (pureV (.tup ds)) es := by
  obtain ⟨e, r'⟩ := r.allocZ (o := .tup vs) hp
  exact ⟨e, .pure (.tup upd_same (l.mono e)) r'⟩

def oAdd : Op2 := fun x y => match x.d, y.d with
  | .int i, .int j => some (pureV (.int (i + j)))
  | .str a, .str b => if a.length + b.length ≤ BIG then some (pureV (.str (a ++ b))) else none
  | .lst xs, .lst ys => if x.q ≤ 1 ∧ y.q ≤ 1 ∧ xs.length + ys.length ≤ BIG then some ⟨1, false, .lst (xs ++ ys)⟩ else none
  | .tup xs, .tup ys => if xs ≠ [] ∧ xs.length + ys.length ≤ BIG then some (pureV (.tup (xs ++ ys))) else none
  | _, _ => none
end
section
variable {K : PySem.W.Frag}
def rAddA (K : PySem.W.Frag) : R2 := fun x y H Q => rI0 (fun i j => .int (i + j)) x y H Q ∨ (∃ i j, x = .str i ∧ y = .str j ∧ i.length + j.length ≤ sizeLine ∧ Q (.str (i ++ j)) H) ∨ rCat x y H Q ∨ rCatT K x y H Q
theorem op_addA {X : Cx} : OpR X (binaryOp .Add) (rAddA X.K) := op_add.or (op_add_str.or (op_cat.or op_catT))
theorem RpL.nil_iff {Hz : Hp} {vs : List V} {ds : List D} (h : RpL K Hz vs ds) : vs = [] ↔ ds = [] := by
  cases h <;> simp
theorem ok_add : OpOk K (rAddA K) oAdd := by
  intro v w x y z es Hz H Q r hx hy hz q
  unfold oAdd at hz
  split at hz
  · rename_i i j e1 e2
    cases hz
    exact .inl ⟨i, j, hx.int e1, hy.int e2, q _ H Hz (Ex.refl _) (Ex.refl _) (.pure (.int _) r)⟩
  · rename_i a b e1 e2
    split at hz
    · rename_i c
      cases hz
      exact .inr (.inl ⟨a, b, hx.str e1, hy.str e2, big_line c, q _ H Hz (Ex.refl _) (Ex.refl _) (.pure (.str _) r)⟩)
    · cases hz
  · rename_i xs ys e1 e2
    split at hz
    · rename_i c
      obtain ⟨c1, c2, c3⟩ := c
      cases hz
      obtain ⟨a, vs, A, rfl, h1, o1⟩ := hx.lst r.ex e1
      obtain ⟨b, ws, B, rfl, h2, o2⟩ := hy.lst r.ex e2
      refine .inr (.inr (.inl ⟨a, b, vs, ws, rfl, rfl, h1, h2, ?_, fun p hp => ?_⟩))
      · rw [o1.length, o2.length]; exact big_line c3
      · exact q _ _ Hz (Ex.refl _) (Ex.new hp) (new_lst r hp ((o1.one c1).append (o2.one c2)))
    · cases hz
  · rename_i xs ys e1 e2
    split at hz
    · rename_i c
      obtain ⟨c1, c3⟩ := c
      cases hz
      obtain ⟨a, vs, rfl, h1, o1⟩ := hx.tup e1
      obtain ⟨b, ws, rfl, h2, o2⟩ := hy.tup e2
      refine .inr (.inr (.inr ⟨a, b, vs, ws, rfl, rfl, .of (r.ex _ _ h1), .of (r.ex _ _ h2), fun e => c1 (o1.nil_iff.mp e), ?_, fun e => ?_, fun _ p hp => ?_⟩))
      · rw [o1.length, o2.length]; exact big_line c3
      · have e' := o2.nil_iff.mp e
        subst e'
        simp only [List.append_nil] at q
        exact q _ H Hz (Ex.refl _) (Ex.refl _) (.pure (.tup h1 o1) r)
      · obtain ⟨e, o⟩ := new_tup r hp (o1.append o2)
        exact q _ _ _ e (Ex.new hp) o
    · cases hz
  · cases hz
/-! ints -/
def oI (g : Int → Int → D) (c : Int → Int → Bool) : Op2 := fun x y => match x.d, y.d with
  | .int i, .int j => if c i j = true then some (pureV (g i j)) else none
  | _, _ => none
theorem ok_I {C : Int → Int → Prop} {gV : Int → Int → V} {g : Int → Int → D} {c : Int → Int → Bool} (hc : ∀ i j, c i j = true → C i j) (hg : ∀ H i j, Rp K H (gV i j) (g i j)) : OpOk K (rI C gV) (oI g c) := by
  intro v w x y z es Hz H Q r hx hy hz q
  unfold oI at hz
  split at hz
  · rename_i i j e1 e2
    split at hz
    · rename_i h
      cases hz
      exact ⟨i, j, hx.int e1, hy.int e2, hc i j h, q _ H Hz (Ex.refl _) (Ex.refl _) (.pure (hg _ i j) r)⟩
    · cases hz
  · cases hz
def oI0 (g : Int → Int → D) : Op2 := fun x y => match x.d, y.d with
  | .int i, .int j => some (pureV (g i j))
  | _, _ => none
theorem ok_I0 {gV : Int → Int → V} {g : Int → Int → D} (hg : ∀ H i j, Rp K H (gV i j) (g i j)) : OpOk K (rI0 gV) (oI0 g) := by
  intro v w x y z es Hz H Q r hx hy hz q
  unfold oI0 at hz
  split at hz
  · rename_i i j e1 e2
    cases hz
    exact ⟨i, j, hx.int e1, hy.int e2, q _ H Hz (Ex.refl _) (Ex.refl _) (.pure (hg _ i j) r)⟩
  · cases hz
def oSub : Op2 := oI0 fun i j => .int (i - j)
theorem ok_sub : OpOk K (rI0 fun i j => .int (i - j)) oSub := ok_I0 fun _ _ _ => .int _
def oDiv : Op2 := oI (fun i j => .int (i / j)) fun i j => decide (0 < j ∧ j < 1073741824)
theorem ok_div : OpOk K (rI CDiv fun i j => .int (i / j)) oDiv := ok_I (fun i j h => (of_decide_eq_true h : 0 < j ∧ j < 1073741824)) fun _ _ _ => .int _
def oMod : Op2 := oI (fun i j => .int (i % j)) fun _ j => decide (0 < j)
theorem ok_mod : OpOk K (rI (fun _ j => 0 < j) fun i j => .int (i % j)) oMod := ok_I (fun i j h => (of_decide_eq_true h : 0 < j)) fun _ _ _ => .int _
def oPow : Op2 := oI (fun i j => .int (i ^ j.toNat)) fun i j => decide (0 ≤ j ∧ j ≤ 1000000 ∧ i.natAbs < 18446744073709551616)
theorem ok_pow : OpOk K (rI CPow fun i j => .int (i ^ j.toNat)) oPow := ok_I (fun i j h => by
  obtain ⟨h1, h2, h3⟩ := of_decide_eq_true h
  exact ⟨h1, h2, by simpa using h3⟩) fun _ _ _ => .int _
def oMul : Op2 := fun x y => match x.d, y.d with
  | .int i, .int j => if i.natAbs < 18446744073709551616 ∨ j.natAbs < 18446744073709551616 then some (pureV (.int (i * j))) else none
  | .lst xs, .int k => if x.q ≤ 1 ∧ 0 ≤ k ∧ k ≤ 1000 ∧ xs.length ≤ 1000 then some ⟨1, false, .lst (List.replicate k.toNat xs).flatten⟩ else none
  | _, _ => none
def rMulA : R2 := fun x y H Q => rI CMul (fun i j => .int (i * j)) x y H Q ∨ rRep x y H Q
theorem op_mulA {X : Cx} : OpR X (binaryOp .Mult) rMulA := op_mul.or op_rep
theorem RpL.rep {Hz : Hp} {vs : List V} {ds : List D} (h : RpL K Hz vs ds) : ∀ n : Nat, RpL K Hz (List.replicate n vs).flatten (List.replicate n ds).flatten
  | 0 => .nil
  | n + 1 => by
    rw [List.replicate_succ, List.replicate_succ, List.flatten_cons, List.flatten_cons]
    exact h.append (RpL.rep h n)
theorem ok_mul : OpOk K rMulA oMul := by
  intro v w x y z es Hz H Q r hx hy hz q
  unfold oMul at hz
  split at hz
  · rename_i i j e1 e2
    split at hz
    · rename_i c
      cases hz
      refine .inl ⟨i, j, hx.int e1, hy.int e2, ?_, q _ H Hz (Ex.refl _) (Ex.refl _) (.pure (.int _) r)⟩
      have e : (2 : Int) ^ 64 = 18446744073709551616 := by decide
      unfold CMul
      rw [e]
      omega
    · cases hz
  · rename_i xs k e1 e2
    split at hz
    · rename_i c
      obtain ⟨c1, c2, c3, c4⟩ := c
      cases hz
      obtain ⟨a, vs, A, rfl, h1, o1⟩ := hx.lst r.ex e1
      have e : (2 : Int) ^ 63 = 9223372036854775808 := by decide
      refine .inr ⟨a, k, vs, rfl, hy.int e2, h1, by rw [e]; omega, by rw [e]; omega, ?_, fun p hp => ?_⟩
      · rw [o1.length]
        have : xs.length * k.toNat ≤ 1000 * 1000 := Nat.mul_le_mul c4 (by omega)
        exact Nat.le_trans this (by decide)
      · exact q _ _ Hz (Ex.refl _) (Ex.new hp) (new_lst r hp ((o1.one c1).rep _))
    · cases hz
  · cases hz
/-! comparisons -/
def oB0 (g : Int → Int → Bool) : Op2 := oI0 fun i j => .bl (g i j)
theorem ok_lt : OpOk K (rI0 fun i j => .bl (decide (i < j))) (oB0 fun i j => decide (i < j)) := ok_I0 fun _ _ _ => .bl _
theorem ok_le : OpOk K (rI0 fun i j => .bl (decide (i ≤ j))) (oB0 fun i j => decide (i ≤ j)) := ok_I0 fun _ _ _ => .bl _
theorem ok_gt : OpOk K (rI0 fun i j => .bl (decide (j < i))) (oB0 fun i j => decide (j < i)) := ok_I0 fun _ _ _ => .bl _
theorem ok_ge : OpOk K (rI0 fun i j => .bl (decide (j ≤ i))) (oB0 fun i j => decide (j ≤ i)) := ok_I0 fun _ _ _ => .bl _
/-- is None -/
def isNon : D → Bool
  | .non => true
  | _ => false
def isHole : D → Bool
  | .hole _ => true
  | _ => false
def oIsN : Op2 := fun x y => if isNon y.d = true ∧ isHole x.d = false then some (pureV (.bl (isNon x.d))) else none
def oNotN : Op2 := fun x y => if isNon y.d = true ∧ isHole x.d = false then some (pureV (.bl (!isNon x.d))) else none
theorem isNon_ok {Hz : Hp} {v : V} {d : D} (h : Rp K Hz v d) (n : isHole d = false) : decide (v = .non) = isNon d := by
  cases h <;> first | rfl | cases n
theorem isNon_eq {d : D} (h : isNon d = true) : d = .non := by
  cases d <;> first | rfl | cases h
theorem ok_isN : OpOk K (fun x y H Q => y = .non ∧ Q (.bl (decide (x = .non))) H) oIsN := by
  intro v w x y z es Hz H Q r hx hy hz q
  unfold oIsN at hz
  split at hz
  · rename_i c
    cases hz
    refine ⟨hy.non (isNon_eq c.1), ?_⟩
    rw [isNon_ok (hx.rp r.ex) c.2]
    exact q _ H Hz (Ex.refl _) (Ex.refl _) (.pure (.bl _) r)
  · cases hz
theorem ok_notN : OpOk K (fun x y H Q => y = .non ∧ Q (.bl (!decide (x = .non))) H) oNotN := by
  intro v w x y z es Hz H Q r hx hy hz q
  unfold oNotN at hz
  split at hz
  · rename_i c
    cases hz
    refine ⟨hy.non (isNon_eq c.1), ?_⟩
    rw [isNon_ok (hx.rp r.ex) c.2]
    exact q _ H Hz (Ex.refl _) (Ex.refl _) (.pure (.bl _) r)
  · cases hz
end
end Pd
end
section
/-! Pd: and, or, not, chains, choices, displays, fields, items, slices. -/
namespace Pd
open PySem L2
section
variable {X : Cx} {W : WX} {s sa sb sc : Bool} {pos : Pos} {K : PySem.W.Frag} {fa fb fc : EF} {σ : L2.St} {H : Hp} {Q : VK} {a b c : Expr}
theorem RetE.base {Fr : List Ent} {Hz0 Hz1 H0 H1 : Hp} {s s' : Bool} {r : RE} {Q : VK} (q : RetE K Fr σ Hz0 H0 s W r Q) (ez : Ex Hz0 Hz1) (k : s = true → Ex H0 H1 ∧ s' = true) : RetE K Fr σ Hz1 H1 s' W r Q := by
  cases r with
  | stuck => exact q
  | exc C ns xs ρ => exact fun dx H' Hz' es' e a b c => q dx H' Hz' es' (ez.trans e) a b c
  | ok x ρ => exact fun v H' Hz' es' e kk S o => q v H' Hz' es' (ez.trans e) (fun z => (k z).1.trans (kk (k z).2)) S o
/-- one value, then what goes on with it -/
theorem one {k : RV → EF} {Qk : V → Hp → Prop} (h : tE K W s (fun ρ => (fa ρ).bind k) σ H Q) (hs : s = true → sa = true)
    (hk : ∀ v x ρ1 es1 Fr Hz1 H1, Slots σ ρ1 es1 → RVok K Hz1 H1 v x (es1 ++ Fr) → RetE K Fr σ Hz1 H1 s W (k x ρ1) Q → (s = true → Ex H H1) → Qk v H1) : tE K W sa fa σ H Qk := by
  obtain ⟨ρ, es, Fr, Hz, S, r, q⟩ := h
  refine ⟨ρ, es, Fr, Hz, S, r, ?_⟩
  dsimp only at q
  cases e : fa ρ with
  | stuck => rw [e] at q; exact q
  | exc C ns xs ρ' => rw [e] at q; exact q
  | ok x ρ1 =>
    rw [e] at q
    exact fun v H1 Hz1 es1 ez k1 S1 o1 => hk v x ρ1 es1 Fr Hz1 H1 S1 o1 (q.base ez fun z => ⟨k1 (hs z), z⟩) fun z => k1 (hs z)
theorem one' {k : RV → EF} {Qk : V → Hp → Prop} (h : tE K W s (fun ρ => (fa ρ).bind k) σ H Q) (hs : s = true → sa = true)
    (hk : ∀ v x ρ1 es1 Fr Hz1 H1, Slots σ ρ1 es1 → RVok K Hz1 H1 v x (es1 ++ Fr) → RetE K Fr σ Hz1 H1 s W (k x ρ1) Q → Qk v H1) : tE K W sa fa σ H Qk := one h hs fun v x ρ1 es1 Fr Hz1 H1 S o q _ => hk v x ρ1 es1 Fr Hz1 H1 S o q
theorem RVok.d_imm {Hz : Hp} {es : List Ent} {v : V} {x : RV} (o : RVok K Hz H v x es) (i : immut x.d = true) : Rp K Hz v x.d := o.view.imm i
theorem RVok.bl {Hz : Hp} {es : List Ent} {v : V} {x : RV} {t : Bool} (o : RVok K Hz H v x es) (e : x.d = .bl t) : v = .bl t := o.view.bl e

/-! ### and, or, not -/
/-- by a truth -/
def eIf (fc fa fb : EF) : EF := fun ρ => (fc ρ).bind fun x ρ1 => match x.d with
  | .bl true => fa ρ1
  | .bl false => fb ρ1
  | _ => .stuck
abbrev eAnd (fa fb : EF) : EF := eIf fa fb (eC (.bl false))
abbrev eOr (fa fb : EF) : EF := eIf fa (eC (.bl true)) fb
abbrev eNot (fa : EF) : EF := eIf fa (eC (.bl false)) (eC (.bl true))
theorem if_core {Qk : V → Hp → Prop} (h : tE K W s (eIf fc fa fb) σ H Q) (hs : s = true → sc = true ∧ sa = true ∧ sb = true)
    (hk : ∀ v c H1, v = .bl c → (if c = true then tE K W sa fa σ H1 Q else tE K W sb fb σ H1 Q) → Qk v H1) : tE K W sc fc σ H Qk := by
  refine one h (fun z => (hs z).1) fun v x ρ1 es1 Fr Hz1 H1 S o q k => ?_
  split at q
  · rename_i e
    refine hk v true H1 (o.bl e) (iteT ⟨ρ1, es1, Fr, Hz1, S, o.rest, q.base (Ex.refl _) fun z => ⟨Ex.refl _, (hs z).2.1⟩⟩)
  · rename_i e
    refine hk v false H1 (o.bl e) (iteF ⟨ρ1, es1, Fr, Hz1, S, o.rest, q.base (Ex.refl _) fun z => ⟨Ex.refl _, (hs z).2.2⟩⟩)
  · exact q.elim
theorem ec_ret {d : D} {v : V} (h : tE K W s (eC d) σ H Q) (hd : ∀ H, Rp K H v d) : Q v H := by
  obtain ⟨ρ, es, Fr, Hz, S, r, q⟩ := h
  exact q v H Hz es (Ex.refl _) (fun _ => Ex.refl _) S (.pure (hd _) r)
theorem ite_imp {c : Bool} {A B A' B' : Prop} (h : if c = true then A else B) (h1 : A → A') (h2 : B → B') : if c = true then A' else B' := by
  cases c with
  | true => rw [if_pos rfl] at h ⊢; exact h1 h
  | false => rw [if_neg Bool.false_ne_true] at h ⊢; exact h2 h
theorem se_and {rest : List Expr} (ha : SE X W sa a fa) (hb : SE X W sb (.BoolOp .And (b :: rest) pos) fb) (hs : s = true → sa = true ∧ sb = true := by first | exact fun _ => ⟨rfl, rfl⟩ | (intro z; cases z)) : SE X W s (.BoolOp .And (a :: b :: rest) pos) (eAnd fa fb) := by
  refine peImp (pe_and ha hb) fun σ H Q q => ?_
  exact if_core (sb := true) q (fun z => ⟨(hs z).1, (hs z).2, rfl⟩) fun v c H1 e t => ⟨c, e, ite_imp t id fun t => ec_ret t fun _ => .bl _⟩
theorem se_or {rest : List Expr} (ha : SE X W sa a fa) (hb : SE X W sb (.BoolOp .Or (b :: rest) pos) fb) (hs : s = true → sa = true ∧ sb = true := by first | exact fun _ => ⟨rfl, rfl⟩ | (intro z; cases z)) : SE X W s (.BoolOp .Or (a :: b :: rest) pos) (eOr fa fb) := by
  refine peImp (pe_or ha hb) fun σ H Q q => ?_
  exact if_core (sa := true) q (fun z => ⟨(hs z).1, rfl, (hs z).2⟩) fun v c H1 e t => ⟨c, e, ite_imp t (fun t => ec_ret t fun _ => .bl _) id⟩
theorem se_one {op : BoolOp} (h : SE X W s a fa) : SE X W s (.BoolOp op [a] pos) fa := pe_one h
theorem se_not (ha : SE X W s a fa) : SE X W s (.UnaryOp .Not a pos) (eNot fa) := by
  refine peImp (pe_not ha) fun σ H Q q => ?_
  refine if_core (sa := true) (sb := true) q (fun z => ⟨z, rfl, rfl⟩) fun v c H1 e t => ⟨c, e, ?_⟩
  cases c with
  | true => exact ec_ret (by simpa using t) fun _ => .bl _
  | false => exact ec_ret (by simpa using t) fun _ => .bl _
/-- tests that are and, or chains -/
abbrev SW (X : Cx) (W : WX) (s : Bool) (e : Expr) (f : EF) : Prop := PW X e (tT X.K W s f)
theorem SW.st {e : Expr} (h : SW X W s e fa) : ST X W s e fa := h.pt
theorem pwImp {e : Expr} {t t' : TT} (h : PW X e t) (i : ∀ σ H Q, t' σ H Q → t σ H Q) : PW X e t' := ⟨fun wh pins s σ H Q I q => h.run wh pins s σ H Q I (i σ H Q q)⟩
theorem bl_ret {Q : Bool → Hp → Prop} {t : Bool} (h : tE K W s (eC (.bl t)) σ H (fun v H' => ∃ c, v = .bl c ∧ Q c H')) : Q t H := by
  obtain ⟨c, e, q⟩ := ec_ret (v := .bl t) h fun _ => .bl _
  cases e; exact q
theorem sw_and {rest : List Expr} (ha : ST X W sa a fa) (hb : SW X W sb (.BoolOp .And (b :: rest) pos) fb) (hs : s = true → sa = true ∧ sb = true := by first | exact fun _ => ⟨rfl, rfl⟩ | (intro z; cases z)) : SW X W s (.BoolOp .And (a :: b :: rest) pos) (eAnd fa fb) := by
  refine pwImp (pw_and ha hb) fun σ H Q q => ?_
  exact if_core (sb := true) q (fun z => ⟨(hs z).1, (hs z).2, rfl⟩) fun v c H1 e t => ⟨c, e, ite_imp t id bl_ret⟩
theorem sw_or {rest : List Expr} (ha : ST X W sa a fa) (hb : SW X W sb (.BoolOp .Or (b :: rest) pos) fb) (hs : s = true → sa = true ∧ sb = true := by first | exact fun _ => ⟨rfl, rfl⟩ | (intro z; cases z)) : SW X W s (.BoolOp .Or (a :: b :: rest) pos) (eOr fa fb) := by
  refine pwImp (pw_or ha hb) fun σ H Q q => ?_
  exact if_core (sa := true) q (fun z => ⟨(hs z).1, rfl, (hs z).2⟩) fun v c H1 e t => ⟨c, e, ite_imp t bl_ret id⟩
theorem sw_and1 (ha : ST X W s a fa) : SW X W s (.BoolOp .And [a] pos) fa := pw_and1 ha
theorem sw_or1 (ha : ST X W s a fa) : SW X W s (.BoolOp .Or [a] pos) fa := pw_or1 ha
theorem st_not (ha : ST X W s a fa) : ST X W s (.UnaryOp .Not a pos) (eNot fa) := by
  refine ptImp (pt_not ha) fun σ H Q q => ?_
  refine if_core (sa := true) (sb := true) q (fun z => ⟨z, rfl, rfl⟩) fun v c H1 e t => ⟨c, e, ?_⟩
  cases c with
  | true => exact bl_ret (s := true) (W := W) (by simpa using t)
  | false => exact bl_ret (s := true) (W := W) (by simpa using t)
theorem se_ite (hc : ST X W sc c fc) (ha : SE X W sa a fa) (hb : SE X W sb b fb) (hs : s = true → sc = true ∧ sa = true ∧ sb = true := by first | exact fun _ => ⟨rfl, rfl, rfl⟩ | (intro z; cases z)) : SE X W s (.IfExp c a b pos) (eIf fc fa fb) := by
  refine peImp (pe_ifExp hc ha hb) fun σ H Q q => ?_
  exact if_core q hs fun v c H1 e t => ⟨c, e, t⟩

/-! ### a < b < c, of whole numbers; the middle one is asked once -/
def eChain (g g' : Int → Int → Bool) (fa fb fc : EF) : EF := fun ρ => (fa ρ).bind fun x ρ1 => match x.d with
  | .int i => (fb ρ1).bind fun y ρ2 => match y.d with
    | .int j => if g i j = true then (fc ρ2).bind fun z ρ3 => match z.d with
        | .int k => .ok (pureV (.bl (g' j k))) ρ3
        | _ => .stuck
      else .ok (pureV (.bl false)) ρ2
    | _ => .stuck
  | _ => .stuck
theorem chain_core {g g' : Int → Int → Bool} (h : tE K W s (eChain g g' fa fb fc) σ H Q) (hs : s = true → sa = true ∧ sb = true ∧ sc = true) :
    tChain (rI0 fun i j => .bl (g i j)) (rI0 fun i j => .bl (g' i j)) (tE K W sa fa) (tE K W sb fb) (tE K W sc fc) σ H Q := by
  refine one h (fun z => (hs z).1) fun v x ρ1 es1 Fr Hz1 H1 S o q k => ?_
  split at q
  · rename_i i e1
    have ev := o.view.int e1
    refine one (s := s) ⟨ρ1, es1, Fr, Hz1, S, o.rest, q⟩ (fun z => (hs z).2.1) fun w y ρ2 es2 Fr2 Hz2 H2 S2 o2 q2 k2 => ?_
    split at q2
    · rename_i j e2
      have ew := o2.view.int e2
      refine ⟨i, j, ev, ew, g i j, rfl, ?_⟩
      split at q2
      · rename_i c
        rw [if_pos c]
        refine one (s := s) ⟨ρ2, es2, Fr2, Hz2, S2, o2.rest, q2⟩ (fun z => (hs z).2.2) fun u z ρ3 es3 Fr3 Hz3 H3 S3 o3 q3 k3 => ?_
        split at q3
        · rename_i l e3
          exact ⟨j, l, ew, o3.view.int e3, q3 _ H3 Hz3 es3 (Ex.refl _) (fun _ => Ex.refl _) S3 (.pure (.bl _) o3.rest)⟩
        · exact q3.elim
      · rename_i c
        rw [if_neg c]
        exact q2 _ H2 Hz2 es2 (Ex.refl _) (fun _ => Ex.refl _) S2 (.pure (.bl _) o2.rest)
    · exact q2.elim
  · exact q.elim
abbrev bLt : Int → Int → Bool := fun i j => decide (i < j)
abbrev bLe : Int → Int → Bool := fun i j => decide (i ≤ j)
theorem se_chain {op op' : CmpOp} {g g' : Int → Int → Bool} (ho : OpR X (compareOp op) (rI0 fun i j => .bl (g i j))) (ho' : OpR X (compareOp op') (rI0 fun i j => .bl (g' i j))) (ha : SE X W sa a fa) (hb : SE X W sb b fb) (hc : SE X W sc c fc)
    (hm : lastMarks [op, op'] [b, c] = false := by with_unfolding_all rfl) (hs : s = true → sa = true ∧ sb = true ∧ sc = true := by first | exact fun _ => ⟨rfl, rfl, rfl⟩ | (intro z; cases z)) : SE X W s (.Compare a [op, op'] [b, c] pos) (eChain g g' fa fb fc) :=
  peImp (pe_chain ho ho' ha hb hc hm) fun σ H Q q => chain_core q hs
theorem st_chain {op op' : CmpOp} {g g' : Int → Int → Bool} (ho : OpR X (compareOp op) (rI0 fun i j => .bl (g i j))) (ho' : OpR X (compareOp op') (rI0 fun i j => .bl (g' i j))) (ha : SE X W sa a fa) (hb : SE X W sb b fb) (hc : SE X W sc c fc)
    (hm : lastMarks [op, op'] [b, c] = false := by with_unfolding_all rfl) (hs : s = true → sa = true ∧ sb = true ∧ sc = true := by first | exact fun _ => ⟨rfl, rfl, rfl⟩ | (intro z; cases z)) : ST X W s (.Compare a [op, op'] [b, c] pos) (eChain g g' fa fb fc) :=
  ptImp (pt_chain ho ho' ha hb hc hm) fun σ H Q q => chain_core q hs

/-! ### arguments, displays -/
inductive RA where
  | ok (xs : List RV) (ρ : Vr)
  | exc (C : Nm) (ns : List Nm) (xs : List D) (ρ : Vr)
  | stuck
/-- an argument: a value; a variable that is lent, to be given back -/
inductive Ar where
  | ev (f : EF)
  | io (i : Nat)
def evA : List Ar → Vr → RA
  | [], ρ => .ok [] ρ
  | .ev f :: r, ρ => match f ρ with
    | .ok x ρ1 => if x.b = true then .stuck else match evA r ρ1 with
      | .ok xs ρ2 => .ok (x :: xs) ρ2
      | .exc C ns ys ρ' => .exc C ns ys ρ'
      | .stuck => .stuck
    | .exc C ns ys ρ' => .exc C ns ys ρ'
    | .stuck => .stuck
  | .io i :: r, ρ => match ρ[i]? with
    | some (some (m, d)) => match evA r (ρ.set i none) with
      | .ok xs ρ2 => .ok (⟨m, false, d⟩ :: xs) ρ2
      | .exc C ns ys ρ' => .exc C ns ys ρ'
      | .stuck => .stuck
    | _ => .stuck
def zipE : List V → List RV → List Ent
  | v :: vs, x :: xs => ⟨v, x.q, x.d⟩ :: zipE vs xs
  | _, _ => []
/-- the lent ones are the variables' own -/
inductive Lent (σ : L2.St) : List Ar → List V → Prop
  | nil : Lent σ [] []
  | ev {f : EF} {r : List Ar} {v : V} {vs : List V} : Lent σ r vs → Lent σ (.ev f :: r) (v :: vs)
  | io {i : Nat} {r : List Ar} {v : V} {vs : List V} : σ[i]? = some (some v) → Lent σ r vs → Lent σ (.io i :: r) (v :: vs)
def RetA (K : PySem.W.Frag) (as : List Ar) (Fr : List Ent) (σ : L2.St) (Hz H : Hp) (s : Bool) (W : WX) (r : RA) (Q : List V → Hp → Prop) : Prop := match r with
  | .ok xs ρ' => ∀ vs H' Hz' es', Ex Hz Hz' → (s = true → Ex H H') → Slots σ ρ' es' → vs.length = xs.length → Lent σ as vs → R K (zipE vs xs ++ (es' ++ Fr)) Hz' H' → Q vs H'
  | .exc C ns xs ρ' => ∀ dx H' Hz' es', Ex Hz Hz' → ExcAt K Hz' ns xs dx → Slots σ ρ' es' → R K (es' ++ Fr) Hz' H' → W (.ref (ca K C)) dx σ H'
  | .stuck => False
def tA (K : PySem.W.Frag) (W : WX) (s : Bool) (as : List Ar) : TA := fun σ H Q => ∃ ρ es Fr Hz, Slots σ ρ es ∧ R K (es ++ Fr) Hz H ∧ RetA K as Fr σ Hz H s W (evA as ρ) Q
abbrev SA (X : Cx) (W : WX) (s : Bool) (es : List Expr) (as : List Ar) : Prop := PA X es (tA X.K W s as)
theorem paImp {es : List Expr} {t t' : TA} (h : PA X es t) (i : ∀ σ H Q, t' σ H Q → t σ H Q) : PA X es t' := ⟨fun pos pins s σ H Q I q => h.run pos pins s σ H Q I (i σ H Q q)⟩
theorem sa_nil : SA X W s [] [] := by
  refine paImp pa_nil fun σ H Q ⟨ρ, es, Fr, Hz, S, r, q⟩ => ?_
  exact q [] H Hz es (Ex.refl _) (fun _ => Ex.refl _) S rfl .nil r
theorem sa_ev {es : List Expr} {as : List Ar} (ha : SE X W sa a fa) (hr : SA X W sb es as) (hs : s = true → sa = true ∧ sb = true := by first | exact fun _ => ⟨rfl, rfl⟩ | (intro z; cases z)) (hst : starEach (a :: es) X.env = (false, eval a X.env) :: starEach es X.env := by rfl) : SA X W s (a :: es) (.ev fa :: as) := by
  refine paImp (pa_cons ha hr hst) fun σ H Q ⟨ρ, es, Fr, Hz, S, r, q⟩ => ⟨ρ, es, Fr, Hz, S, r, ?_⟩
  unfold evA at q
  cases e : fa ρ with
  | stuck => rw [e] at q; exact q
  | exc C ns xs ρ' => rw [e] at q; exact q
  | ok x ρ1 =>
    rw [e] at q
    dsimp only at q
    intro v H1 Hz1 es1 ez1 k1 S1 o1
    split at q
    · exact q.elim
    · rename_i hb
      have o1' := o1.own (by simpa using hb)
      refine ⟨ρ1, es1, ⟨v, x.q, x.d⟩ :: Fr, Hz1, S1, o1'.perm List.perm_middle.symm, ?_⟩
      cases e2 : evA as ρ1 with
      | stuck => rw [e2] at q; exact q
      | exc C ns xs ρ' =>
        rw [e2] at q
        exact fun dx H' Hz' es' ez a b c => q dx H' Hz' es' (ez1.trans ez) a b (c.perm List.perm_middle).tail
      | ok xs ρ2 =>
        rw [e2] at q
        intro vs H2 Hz2 es2 ez2 k2 S2 l2 t2 o2
        refine q (v :: vs) H2 Hz2 es2 (ez1.trans ez2) (fun z => (k1 (hs z).1).trans (k2 (hs z).2)) S2 (by rw [List.length_cons, List.length_cons, l2]) (.ev t2) (o2.perm ?_)
        show (zipE vs xs ++ (es2 ++ ⟨v, x.q, x.d⟩ :: Fr)).Perm (⟨v, x.q, x.d⟩ :: (zipE vs xs ++ (es2 ++ Fr)))
        rw [← List.append_assoc, ← List.append_assoc]
        exact List.perm_middle
theorem sa_io (i : Nat) {x : Str} {p : Pos} {es : List Expr} {as : List Ar} (hr : SA X W s es as) (hN : X.N[i]? = some x := by rfl) (hv : Vis X.env.scope x := by first | exact Or.inl rfl | exact Or.inr (Or.inl rfl) | exact Or.inr (Or.inr rfl)) (hd : (x == ("__debug__" : Str)) = false := by decide)
    (hcd : (x == ("__classdict__" : Str)) = false := by decide) (hst : starEach (.Name x p :: es) X.env = (false, eval (.Name x p) X.env) :: starEach es X.env := by rfl) : SA X W s (.Name x p :: es) (.io i :: as) := by
  refine paImp (pa_cons (pv i hN hv hd hcd) hr hst) fun σ H Q ⟨ρ, es, Fr, Hz, S, r, q⟩ => ?_
  unfold evA at q
  cases e : ρ[i]? with
  | none => rw [e] at q; exact q.elim
  | some o => cases o with
    | none => rw [e] at q; exact q.elim
    | some md =>
      obtain ⟨m, d⟩ := md
      rw [e] at q
      dsimp only at q
      obtain ⟨v, es', h1, h2, h3⟩ := S.take e
      refine ⟨v, h1, ρ.set i none, es', ⟨v, m, d⟩ :: Fr, Hz, h3, (r.perm (mid h2)).perm List.perm_middle.symm, ?_⟩
      cases e2 : evA as (ρ.set i none) with
      | stuck => rw [e2] at q; exact q
      | exc C ns xs ρ' =>
        rw [e2] at q
        exact fun dx H' Hz' es' ez a b c => q dx H' Hz' es' ez a b (c.perm List.perm_middle).tail
      | ok xs ρ2 =>
        rw [e2] at q
        intro vs H2 Hz2 es2 ez2 k2 S2 l2 t2 o2
        refine q (v :: vs) H2 Hz2 es2 ez2 k2 S2 (by rw [List.length_cons, List.length_cons, l2]) (.io h1 t2) (o2.perm ?_)
        show (zipE vs xs ++ (es2 ++ ⟨v, m, d⟩ :: Fr)).Perm (⟨v, m, d⟩ :: (zipE vs xs ++ (es2 ++ Fr)))
        rw [← List.append_assoc, ← List.append_assoc]
        exact List.perm_middle
@[simp] def RA.bind (r : RA) (f : List RV → EF) : RE := match r with
  | .ok xs ρ => f xs ρ
  | .exc C ns xs ρ => .exc C ns xs ρ
  | .stuck => .stuck
theorem oneA {as : List Ar} {k : List RV → EF} {Qk : List V → Hp → Prop} (h : tE K W s (fun ρ => (evA as ρ).bind k) σ H Q) (hs : s = true → sa = true)
    (hk : ∀ vs xs ρ1 es1 Fr Hz1 H1, Slots σ ρ1 es1 → vs.length = xs.length → Lent σ as vs → R K (zipE vs xs ++ (es1 ++ Fr)) Hz1 H1 → RetE K Fr σ Hz1 H1 s W (k xs ρ1) Q → Qk vs H1) : tA K W sa as σ H Qk := by
  obtain ⟨ρ, es, Fr, Hz, S, r, q⟩ := h
  refine ⟨ρ, es, Fr, Hz, S, r, ?_⟩
  dsimp only at q
  cases e : evA as ρ with
  | stuck => rw [e] at q; exact q
  | exc C ns xs ρ' => rw [e] at q; exact q
  | ok xs ρ1 =>
    rw [e] at q
    exact fun vs H1 Hz1 es1 ez k1 S1 l1 t1 o1 => hk vs xs ρ1 es1 Fr Hz1 H1 S1 l1 t1 o1 (q.base ez fun z => ⟨k1 (hs z), z⟩)
/-- the values at hand are all frozen from now on -/
theorem zip_frozen {Hz : Hp} {rest : List Ent} : ∀ {vs : List V} {xs : List RV}, vs.length = xs.length → R K (zipE vs xs ++ rest) Hz H → ∃ Hz', Ex Hz Hz' ∧ RpL K Hz' vs (xs.map (·.d)) ∧ R K rest Hz' H
  | [], [], _, r => ⟨Hz, Ex.refl _, .nil, r⟩
  | v :: vs, x :: xs, l, r => by
    obtain ⟨Hz1, e1, r1⟩ := R.weaken 0 (.inl (Nat.zero_le _)) (show R K (⟨v, x.q, x.d⟩ :: (zipE vs xs ++ rest)) Hz H from r)
    obtain ⟨Hz2, e2, l2, r2⟩ := zip_frozen (vs := vs) (xs := xs) (by simpa using l) r1.tail
    exact ⟨Hz2, e1.trans e2, .cons (r1.rp0.mono e2) l2, r2⟩
  | [], _ :: _, l, _ => by simp at l
  | _ :: _, [], l, _ => by simp at l
theorem zip_length {vs : List V} {xs : List RV} {rest : List Ent} {Hz : Hp} (l : vs.length = xs.length) (c : xs.length ≤ BIG) : vs.length ≤ sizeLine := by
  rw [l]; exact big_line c
/-- a tuple display: what it holds is frozen -/
def eTup (as : List Ar) : EF := fun ρ => (evA as ρ).bind fun xs ρ1 => if xs.length ≤ BIG then .ok (pureV (.tup (xs.map (·.d)))) ρ1 else .stuck
theorem se_tup {es : List Expr} {as : List Ar} {k : Nat} (h : SA X W s es as) : SE X W s (.Tuple es k pos) (eTup as) := by
  refine peImp (pe_tup h) fun σ H Q q => ?_
  refine oneA q id fun vs xs ρ1 es1 Fr Hz1 H1 S l t r q => ?_
  split at q
  · rename_i c
    refine ⟨by rw [l]; exact big_line c, fun p hp => ?_⟩
    obtain ⟨Hz2, e2, l2, r2⟩ := zip_frozen l r
    obtain ⟨e3, o3⟩ := new_tup r2 hp l2
    exact q _ _ _ es1 (e2.trans e3) (fun _ => Ex.new hp) S o3
  · exact q.elim
/-- a list display: its items are frozen -/
def eLst (as : List Ar) : EF := fun ρ => (evA as ρ).bind fun xs ρ1 => if xs.length ≤ BIG then .ok ⟨1, false, .lst (xs.map (·.d))⟩ ρ1 else .stuck
theorem se_lst {es : List Expr} {as : List Ar} (h : SA X W s es as) : SE X W s (.List es pos) (eLst as) := by
  refine peImp (pe_lst h) fun σ H Q q => ?_
  refine oneA q id fun vs xs ρ1 es1 Fr Hz1 H1 S l t r q => ?_
  split at q
  · rename_i c
    refine ⟨by rw [l]; exact big_line c, fun p hp => ?_⟩
    obtain ⟨Hz2, e2, l2, r2⟩ := zip_frozen l r
    exact q _ _ Hz2 es1 e2 (fun _ => Ex.new hp) S (new_lst r2 hp l2)
  · exact q.elim
/-- a list display of lists of one's own -/
theorem zip_owned {Hz : Hp} {rest : List Ent} {j : Nat} : ∀ {vs : List V} {xs : List RV}, vs.length = xs.length → (∀ x ∈ xs, j ≤ x.q ∨ immut x.d = true) → R K (zipE vs xs ++ rest) Hz H →
    ∃ Hz', Ex Hz Hz' ∧ R K (zipE vs (xs.map fun x => ⟨j, false, x.d⟩) ++ rest) Hz' H
  | [], [], _, _, r => ⟨Hz, Ex.refl _, r⟩
  | v :: vs, x :: xs, l, c, r => by
    obtain ⟨Hz1, e1, r1⟩ := R.weaken j (c x List.mem_cons_self) (show R K (⟨v, x.q, x.d⟩ :: (zipE vs xs ++ rest)) Hz H from r)
    have r2 := r1.perm (List.perm_middle (l₁ := zipE vs xs) (l₂ := rest) (a := (⟨v, j, x.d⟩ : Ent))).symm
    obtain ⟨Hz2, e2, r3⟩ := zip_owned (vs := vs) (xs := xs) (rest := ⟨v, j, x.d⟩ :: rest) (by simpa using l) (fun y hy => c y (List.mem_cons_of_mem _ hy)) r2
    exact ⟨Hz2, e1.trans e2, r3.perm List.perm_middle⟩
  | [], _ :: _, l, _, _ => by simp at l
  | _ :: _, [], l, _, _ => by simp at l
end
end Pd
end
section
/-! Pd: fields, items, slices, dicts asked. -/
namespace Pd
open PySem L2
/-- a part of a value at hand -/
def part (r : RV) (d : D) : Option RV := if r.q ≤ 1 ∨ immut d = true then some (pureV d) else if r.b = true then some ⟨r.q - 1, true, d⟩ else none
def lookN (x : Nm) : List Nm → List D → Option D
  | n :: ns, d :: ds => if n = x then some d else lookN x ns ds
  | _, _ => none
def lookD {κ : Type} [DecidableEq κ] : List κ → List D → κ → Option D
  | k0 :: ks, d :: ds, k => if k0 = k then some d else lookD ks ds k
  | _, _, _ => none
section
variable {X : Cx} {W : WX} {s sa sb sc : Bool} {pos : Pos} {K : PySem.W.Frag} {fa fb fc : EF} {σ : L2.St} {H Hz : Hp} {Q : VK} {a b c : Expr} {es : List Ent} {v : V} {x z : RV}
/-- what a part is, given where its whole lies -/
theorem part_ok {d : D} {w : V} {A : List Addr} (r : R K es Hz H) (h : Own K Hz H (x.q - 1) w d A) (e : part x d = some z) : RVok K Hz H w z es := by
  unfold part at e
  split at e
  · rename_i c
    cases e
    refine .pure ?_ r
    rcases c with c | c
    · have : x.q - 1 = 0 := by omega
      rw [this] at h
      exact h.zero.2
    · exact (h.imm c).2
  · split at e
    · cases e
      exact ⟨r, A, h⟩
    · cases e
theorem part_d {d : D} (e : part x d = some z) : z.d = d := by
  unfold part at e
  split at e
  · cases e; rfl
  · split at e
    · cases e; rfl
    · cases e
theorem OwnL.getV {m : Nat} : ∀ {vs : List V} {ds : List D} {A : List Addr} {i : Nat} {d : D}, OwnL K Hz H m vs ds A → ds[i]? = some d → ∃ v B, vs[i]? = some v ∧ Own K Hz H m v d B
  | _, _, _, _, _, .nil, e => by simp at e
  | _, _, _, 0, _, .cons h _, e => by simp at e; subst e; exact ⟨_, _, rfl, h⟩
  | _, _, _, i + 1, _, .cons _ r, e => by
    obtain ⟨v, B, h1, h2⟩ := OwnL.getV (i := i) r (by simpa using e)
    exact ⟨v, B, by simpa using h1, h2⟩
theorem OwnL.lookN {m : Nat} {f : Nm} (inj : ∀ n : Nm, n.str = f.str → n = f) : ∀ {ns : List Nm} {vs : List V} {ds : List D} {A : List Addr} {d : D}, OwnL K Hz H m vs ds A → Pd.lookN f ns ds = some d →
    ∃ v B, ((ns.map Nm.str).zip vs).lookup f.str = some v ∧ Own K Hz H m v d B
  | [], _, _, _, _, _, e => by simp [Pd.lookN] at e
  | _ :: _, _, _, _, _, .nil, e => by simp [Pd.lookN] at e
  | n :: ns, _, _, _, d, .cons h r, e => by
    unfold Pd.lookN at e
    rw [List.map_cons, List.zip_cons_cons, List.lookup_cons]
    by_cases c : n = f
    · rw [if_pos c] at e
      cases e
      subst c
      exact ⟨_, _, by simp, h⟩
    · rw [if_neg c] at e
      have hb : (f.str == n.str) = false := beq_eq_false_iff_ne.mpr fun q => c (inj n q.symm)
      rw [hb]
      exact OwnL.lookN inj r e
theorem OwnL.lookD {κ : Type} [DecidableEq κ] {m : Nat} {k : κ} : ∀ {ks : List κ} {vs : List V} {ds : List D} {A : List Addr}, OwnL K Hz H m vs ds A →
    (∀ d, Pd.lookD ks ds k = some d → ∃ v B, valV (ks.zip vs) k = some v ∧ Own K Hz H m v d B) ∧ (Pd.lookD ks ds k = none → valV (ks.zip vs) k = none)
  | [], _, _, _, _ => ⟨fun d e => by simp [Pd.lookD] at e, fun _ => by rw [List.zip_nil_left]; rfl⟩
  | _ :: _, _, _, _, .nil => ⟨fun d e => by simp [Pd.lookD] at e, fun _ => by rw [List.zip_nil_right]; rfl⟩
  | k0 :: ks, _, _, _, .cons h r => by
    obtain ⟨i1, i2⟩ := OwnL.lookD (k := k) (ks := ks) r
    refine ⟨fun d e => ?_, fun e => ?_⟩
    · unfold Pd.lookD at e
      rw [List.zip_cons_cons]
      by_cases c : k0 = k
      · rw [if_pos c] at e
        cases e
        exact ⟨_, _, valV_pos c, h⟩
      · rw [if_neg c] at e
        rw [valV_neg c]
        exact i1 d e
    · unfold Pd.lookD at e
      rw [List.zip_cons_cons]
      by_cases c : k0 = k
      · rw [if_pos c] at e
        cases e
      · rw [if_neg c] at e
        rw [valV_neg c]
        exact i2 e

/-! ### fields -/
/-- ft: which fields the objects of a class have -/
structure FldOk (K : PySem.W.Frag) (ft : Nm → List Nm) : Prop where
  cls : ∀ C f, f ∈ ft C → Cls K (ca K C) ∧ NoAttr K (ca K C) f.str
  inj : ∀ (f n : Nm), n.str = f.str → n = f
def oFld (ft : Nm → List Nm) (f : Nm) (x : RV) : Option RV := match x.d with
  | .ins C ns ds => if f ∈ ft C then (lookN f ns ds).bind (part x) else none
  | _ => none
def eFld (ft : Nm → List Nm) (f : Nm) (fa : EF) : EF := fun ρ => (fa ρ).bind fun x ρ1 => opE (oFld ft f x) ρ1
theorem opE_ok {o : Option RV} {ρ : Vr} {Fr : List Ent} (q : RetE K Fr σ Hz H s W (opE o ρ) Q) : ∃ z, o = some z ∧ ∀ es v, Slots σ ρ es → RVok K Hz H v z (es ++ Fr) → Q v H := by
  cases o with
  | none => exact q.elim
  | some z => exact ⟨z, rfl, fun es v S o => q v H Hz es (Ex.refl _) (fun _ => Ex.refl _) S o⟩
theorem se_fld {ft : Nm → List Nm} (F : FldOk X.K ft) (f : Nm) (ha : SE X W s a fa) (hb : attributeBase a f.str X.env (eval a X.env) = eval a X.env := by rfl) : SE X W s (.Attribute a f.str pos) (eFld ft f fa) := by
  refine peImp (pe_fld ha hb) fun σ H Q q => ?_
  refine one q id fun v x ρ1 es1 Fr Hz1 H1 S o q k => ?_
  obtain ⟨z, hz, fin⟩ := opE_ok q
  unfold oFld at hz
  split at hz
  · rename_i C ns ds e
    split at hz
    · rename_i hf
      obtain ⟨d, hd, hp⟩ := Option.bind_eq_some_iff.mp hz
      obtain ⟨p, dx, vs, A, rfl, h1, l, ow⟩ := o.view.ins o.rest.ex e
      obtain ⟨w, B, h2, h3⟩ := ow.lookN (F.inj f) hd
      obtain ⟨c1, c2⟩ := F.cls C f hf
      exact ⟨p, _, dx, _, w, rfl, h1, c1, c2, h2, fin es1 w S (part_ok o.rest h3 hp)⟩
    · cases hz
  · cases hz

/-! ### items -/
theorem atI_ex {α β : Type} {xs : List α} {ys : List β} (l : xs.length = ys.length) {i : Int} {y : β} (h : atI ys i = some y) : ∃ j : Nat, ys[j]? = some y ∧ ∀ x, xs[j]? = some x → atI xs i = some x := by
  obtain ⟨j, h1, h2⟩ := Option.bind_eq_some_iff.mp (show (ixN ys.length i).bind (fun j => ys[j]?) = some y from h)
  refine ⟨j, h2, fun x hx => ?_⟩
  show (ixN xs.length i).bind (fun j => xs[j]?) = some x
  rw [l, h1]
  exact hx
def oIdx : Op2 := fun x y => match x.d, y.d with
  | .lst ds, .int i => (atI ds i).bind (part x)
  | .tup ds, .int i => (atI ds i).map pureV
  | .frl ds, .int i => (atI ds i).map pureV
  | .str z, .int i => if z.length ≤ BIG then (atI z.cps.toList i).map fun c => pureV (.str ⟨#[c]⟩) else none
  | _, _ => none
def rIxA (K : PySem.W.Frag) : R2 := fun x y H Q => rIxL K x y H Q ∨ rIxT K x y H Q ∨ rIxS x y H Q
theorem ix_all : IxR X (rIxA X.K) := ix_list.or (ix_tup.or ix_str)
theorem ok_idx : OpOk K (rIxA K) oIdx := by
  intro v w x y z es Hz H Q r hx hy hz q
  unfold oIdx at hz
  split at hz
  · rename_i ds i e1 e2
    obtain ⟨d, hd, hp⟩ := Option.bind_eq_some_iff.mp hz
    obtain ⟨p, vs, A, rfl, h1, ow⟩ := hx.lst r.ex e1
    obtain ⟨j, hj, hv⟩ := atI_ex ow.length hd
    obtain ⟨u, B, hu, hB⟩ := ow.getV hj
    exact .inl ⟨p, vs, i, u, rfl, hy.int e2, .of h1, hv u hu, q u H Hz (Ex.refl _) (Ex.refl _) (part_ok r hB hp)⟩
  · rename_i ds i e1 e2
    obtain ⟨d, hd, hp⟩ := Option.map_eq_some_iff.mp hz
    subst hp
    obtain ⟨p, vs, rfl, h1, l⟩ := hx.tup e1
    obtain ⟨j, hj, hv⟩ := atI_ex l.length hd
    obtain ⟨u, hu, hB⟩ := l.get hj
    exact .inr (.inl ⟨p, vs, i, u, rfl, hy.int e2, .of (r.ex _ _ h1), hv u hu, q u H Hz (Ex.refl _) (Ex.refl _) (.pure hB r)⟩)
  · rename_i ds i e1 e2
    obtain ⟨d, hd, hp⟩ := Option.map_eq_some_iff.mp hz
    subst hp
    obtain ⟨p, vs, rfl, h1, l⟩ := hx.frl e1
    obtain ⟨j, hj, hv⟩ := atI_ex l.length hd
    obtain ⟨u, hu, hB⟩ := l.get hj
    exact .inl ⟨p, vs, i, u, rfl, hy.int e2, r.ex.sql h1, hv u hu, q u H Hz (Ex.refl _) (Ex.refl _) (.pure hB r)⟩
  · rename_i t i e1 e2
    split at hz
    · rename_i c
      obtain ⟨d, hd, hp⟩ := Option.map_eq_some_iff.mp hz
      subst hp
      exact .inr (.inr ⟨t, i, d, hx.str e1, hy.int e2, big_line c, hd, q _ H Hz (Ex.refl _) (Ex.refl _) (.pure (.str _) r)⟩)
    · cases hz
  · cases hz
theorem se_idx (ha : SE X W sa a fa) (hb : SE X W sb b fb) (hp : PlainIx b := by intro _ _; rfl) (hs : s = true → sa = true ∧ sb = true := by first | exact fun _ => ⟨rfl, rfl⟩ | (intro z; cases z)) : SE X W s (.Subscript a b pos) (e2 sb oIdx fa fb) := by
  refine peImp (pe_ix ix_all ha hb hp) fun σ H Q q => ?_
  refine two q hs fun v w x y ρ2 es2 Fr Hz2 H2 Hz0 S2 r2 v1 v2 ez k q2 => ?_
  obtain ⟨z, hz⟩ := opE_some q2
  exact ok_idx v w x y z _ Hz2 H2 Q r2 v1 v2 hz (fin2 hz ez k S2 q2)

/-! ### dicts -/
def keyOf : D → Option Key
  | .int i => some (.inl i)
  | .str x => some (.inr x)
  | _ => none
def keysOf : List D → Option (List Key)
  | [] => some []
  | d :: ds => match keyOf d, keysOf ds with
    | some k, some ks => some (k :: ks)
    | _, _ => none
def keyT : D → Option (List Key)
  | .tup ds => keysOf ds
  | _ => none
theorem keyOf_ok {k : Key} {v : V} {d : D} (h : Rp K Hz v d) (e : keyOf d = some k) : v = kV k := by
  cases h <;> simp [keyOf] at e <;> subst e <;> rfl
theorem keysOf_ok : ∀ {ks : List Key} {vs : List V} {ds : List D}, RpL K Hz vs ds → keysOf ds = some ks → vs = ks.map kV
  | ks, _, _, .nil, e => by simp [keysOf] at e; subst e; rfl
  | ks, _, _, .cons h r, e => by
    unfold keysOf at e
    split at e
    · rename_i k ks' e1 e2
      cases e
      rw [keyOf_ok h e1, keysOf_ok r e2, List.map_cons]
    · cases e
theorem keyT_ok {ks : List Key} {v : V} {d : D} (h : Rp K Hz v d) (e : keyT d = some ks) : ∃ b, v = .ref b ∧ Hz b = some (.tup (ks.map kV)) := by
  cases h with
  | tup h1 l => exact ⟨_, rfl, by rw [h1, keysOf_ok l e]⟩
  | _ => simp [keyT] at e
/-- what a dict has at a key: none: the key is no such key; some none: there is nothing -/
def dGet (x : D) (y : D) : Option (Option D) := match x with
  | .dk ks ds => (keyOf y).map (lookD ks ds)
  | .dt ks ds => (keyT y).map (lookD ks ds)
  | _ => none
theorem keyOf_imm {d : D} {k : Key} (e : keyOf d = some k) : immut d = true := by cases d <;> first | rfl | simp [keyOf] at e
theorem keyT_imm {d : D} {k : List Key} (e : keyT d = some k) : immut d = true := by cases d <;> first | rfl | simp [keyT] at e
theorem dGet_ok {v w : V} {x y : RV} {o : Option D} (r : R K es Hz H) (hx : View K Hz H v x) (hy : View K Hz H w y) (e : dGet x.d y.d = some o) :
    ∃ a p, v = .ref a ∧ DGet H a w p ∧ IsD H a ∧ (∀ d, o = some d → ∃ u B, p = some u ∧ Own K Hz H (x.q - 1) u d B) ∧ (o = none → p = none) := by
  unfold dGet at e
  split at e
  · rename_i ks ds e1
    obtain ⟨k, hk, ho⟩ := Option.map_eq_some_iff.mp e
    obtain ⟨a, vs, A, rfl, h1, l, ow⟩ := hx.dk r.ex e1
    have ew := keyOf_ok (hy.imm (keyOf_imm hk)) hk
    obtain ⟨i1, i2⟩ := ow.lookD (k := k) (ks := ks)
    refine ⟨a, valV (ks.zip vs) k, rfl, by rw [ew]; exact DGet.k h1, .inl ⟨_, .inl h1⟩, fun d hd => ?_, fun hn => i2 (ho.trans hn)⟩
    obtain ⟨u, B, hu, hB⟩ := i1 d (ho.trans hd)
    exact ⟨u, B, hu, hB⟩
  · rename_i ks ds e1
    obtain ⟨k, hk, ho⟩ := Option.map_eq_some_iff.mp e
    obtain ⟨a, vs, A, rfl, h1, l, ow⟩ := hx.dt r.ex e1
    obtain ⟨b, rfl, hb⟩ := keyT_ok (hy.imm (keyT_imm hk)) hk
    obtain ⟨i1, i2⟩ := ow.lookD (k := k) (ks := ks)
    refine ⟨a, valV (ks.zip vs) k, rfl, DGet.t h1 (r.ex _ _ hb), .inr ⟨_, .inl h1⟩, fun d hd => ?_, fun hn => i2 (ho.trans hn)⟩
    obtain ⟨u, B, hu, hB⟩ := i1 d (ho.trans hd)
    exact ⟨u, B, hu, hB⟩
  · cases e
def oDget : Op2 := fun x y => match dGet x.d y.d with
  | some (some d) => part x d
  | _ => none
theorem se_dget (hu : X.A.units + 1 < cLine) (ha : SE X W sa a fa) (hb : SE X W sb b fb) (hp : NoSl b := by intro _ _; rfl) (hs : s = true → sa = true ∧ sb = true := by first | exact fun _ => ⟨rfl, rfl⟩ | (intro z; cases z)) : SE X W s (.Subscript a b pos) (e2 sb oDget fa fb) := by
  refine peImp (pe_dget hu ha hb hp) fun σ H Q q => ?_
  refine two q hs fun v w x y ρ2 es2 Fr Hz2 H2 Hz0 S2 r2 v1 v2 ez k q2 => ?_
  obtain ⟨z, hz⟩ := opE_some q2
  have hz' := hz
  unfold oDget at hz
  split at hz
  · rename_i d e
    obtain ⟨a, p, rfl, hg, _, i1, _⟩ := dGet_ok r2 v1 v2 e
    obtain ⟨u, B, rfl, hB⟩ := i1 d rfl
    exact ⟨a, u, rfl, hg, fin2 hz' ez k S2 q2 u H2 Hz2 (Ex.refl _) (Ex.refl _) (part_ok r2 hB hz)⟩
  · cases hz
/-- y in d -/
def oDin (neg : Bool) : Op2 := fun y x => match dGet x.d y.d with
  | some o => some (pureV (.bl (o.isSome != neg)))
  | none => none
theorem din_core {neg : Bool} {r' : Bool → Bool} (hr : ∀ t, r' t = (t != neg)) (h : tE K W s (e2 sb (oDin neg) fa fb) σ H Q) (hs : s = true → sa = true ∧ sb = true) :
    tE K W sa fa σ H fun y H1 => tE K W sb fb σ H1 fun x H2 => ∃ a o, x = .ref a ∧ DGet H2 a y o ∧ Q (.bl (r' o.isSome)) H2 := by
  refine two h hs fun v w x y ρ2 es2 Fr Hz2 H2 Hz0 S2 r2 v1 v2 ez k q2 => ?_
  obtain ⟨z, hz⟩ := opE_some q2
  have hz' := hz
  unfold oDin at hz
  split at hz
  · rename_i o e
    cases hz
    obtain ⟨a, p, rfl, hg, _, i1, i2⟩ := dGet_ok r2 v2 v1 e
    refine ⟨a, p, rfl, hg, ?_⟩
    have hp : p.isSome = o.isSome := by
      cases o with
      | none => rw [i2 rfl]; rfl
      | some d =>
        obtain ⟨u, B, rfl, _⟩ := i1 d rfl
        rfl
    rw [hr, hp]
    exact fin2 hz' ez k S2 q2 _ H2 Hz2 (Ex.refl _) (Ex.refl _) (.pure (.bl _) r2)
  · cases hz
theorem se_din (hu : X.A.units + 1 < cLine) (ha : SE X W sa a fa) (hb : SE X W sb b fb) (hm : behindInMarks .In b = false := by rfl) (hs : s = true → sa = true ∧ sb = true := by first | exact fun _ => ⟨rfl, rfl⟩ | (intro z; cases z)) : SE X W s (.Compare a [.In] [b] pos) (e2 sb (oDin false) fa fb) :=
  peImp (pe_cmp (pc_din hu ha hb) hm) fun σ H Q q => din_core (r' := id) (fun t => by cases t <;> rfl) q hs
theorem st_din (hu : X.A.units + 1 < cLine) (ha : SE X W sa a fa) (hb : SE X W sb b fb) (hm : behindInMarks .In b = false := by rfl) (hs : s = true → sa = true ∧ sb = true := by first | exact fun _ => ⟨rfl, rfl⟩ | (intro z; cases z)) : ST X W s (.Compare a [.In] [b] pos) (e2 sb (oDin false) fa fb) :=
  ptImp (pt_cmp (pc_din hu ha hb) hm) fun σ H Q q => din_core (r' := id) (fun t => by cases t <;> rfl) q hs
theorem se_dnotin (hu : X.A.units + 1 < cLine) (ha : SE X W sa a fa) (hb : SE X W sb b fb) (hm : behindInMarks .NotIn b = false := by rfl) (hs : s = true → sa = true ∧ sb = true := by first | exact fun _ => ⟨rfl, rfl⟩ | (intro z; cases z)) : SE X W s (.Compare a [.NotIn] [b] pos) (e2 sb (oDin true) fa fb) :=
  peImp (pe_cmp (pc_dnotin hu ha hb) hm) fun σ H Q q => din_core (r' := not) (fun t => by cases t <;> rfl) q hs
theorem st_dnotin (hu : X.A.units + 1 < cLine) (ha : SE X W sa a fa) (hb : SE X W sb b fb) (hm : behindInMarks .NotIn b = false := by rfl) (hs : s = true → sa = true ∧ sb = true := by first | exact fun _ => ⟨rfl, rfl⟩ | (intro z; cases z)) : ST X W s (.Compare a [.NotIn] [b] pos) (e2 sb (oDin true) fa fb) :=
  ptImp (pt_cmp (pc_dnotin hu ha hb) hm) fun σ H Q q => din_core (r' := not) (fun t => by cases t <;> rfl) q hs
/-- {} -/
def eDkN : EF := fun ρ => .ok ⟨1, false, .dk [] []⟩ ρ
def eDtN : EF := fun ρ => .ok ⟨1, false, .dt [] []⟩ ρ
theorem se_dkN : SE X W s (.Dict [] [] pos) eDkN := by
  refine peImp pe_dnewK fun σ H Q ⟨ρ, es, Fr, Hz, S, r, q⟩ p hp => ?_
  refine q _ _ Hz es (Ex.refl _) (fun _ => Ex.new hp) S (.of rfl (R.alloc (fs := []) (m := 0) r hp fun A hA => ?_))
  cases hA
  exact .dk (ks := []) (vs := []) upd_same rfl .nil
theorem se_dtN : SE X W s (.Dict [] [] pos) eDtN := by
  refine peImp pe_dnewT fun σ H Q ⟨ρ, es, Fr, Hz, S, r, q⟩ p hp => ?_
  refine q _ _ Hz es (Ex.refl _) (fun _ => Ex.new hp) S (.of rfl (R.alloc (fs := []) (m := 0) r hp fun A hA => ?_))
  cases hA
  exact .dt (ks := []) (vs := []) upd_same rfl .nil

/-! ### slices -/
def optI : Option RV → Option (Option Int)
  | none => some none
  | some ⟨_, _, .int i⟩ => some (some i)
  | _ => none
def cutD (xs : List D) (lo hi : Option Int) : List D := (xs.drop (HT.sIx xs.length 0 lo)).take (HT.sIx xs.length xs.length hi - HT.sIx xs.length 0 lo)
theorem RpL.cut {vs : List V} {ds : List D} (h : RpL K Hz vs ds) (lo hi : Option Int) : RpL K Hz (cutV vs lo hi) (cutD ds lo hi) := by
  unfold cutV cutD
  rw [h.length]
  exact (h.drop _).take _
def oSlc (x : RV) (lo hi : Option Int) : Option RV := match x.d with
  | .lst ds => if x.q ≤ 1 then some ⟨1, false, .lst (cutD ds lo hi)⟩ else none
  | .frl ds => some ⟨1, false, .lst (cutD ds lo hi)⟩
  | .tup ds => some (pureV (.tup (cutD ds lo hi)))
  | .str z => if z.length ≤ BIG then some (pureV (.str (cutS z lo hi))) else none
  | _ => none
def rSlAll (K : PySem.W.Frag) : V → Option Int → Option Int → Hp → VK → Prop := fun x lo hi H Q => rSlL K x lo hi H Q ∨ rSlA K x lo hi H Q ∨ rSlS x lo hi H Q
theorem sl_all : SlR X (rSlAll X.K) := sl_list.or (sl_tupA.or sl_str)
theorem RetE.step {Fr : List Ent} {ρ : Vr} {k : RV → EF} {Qk : V → Hp → Prop} (S : Slots σ ρ es) (r : R K (es ++ Fr) Hz H) (q : RetE K Fr σ Hz H s W ((fa ρ).bind k) Q) (hs : s = true → sa = true)
    (hk : ∀ v x ρ1 es1 Hz1 H1, Ex Hz Hz1 → (sa = true → Ex H H1) → Slots σ ρ1 es1 → RVok K Hz1 H1 v x (es1 ++ Fr) → RetE K Fr σ Hz1 H1 s W (k x ρ1) Q → Qk v H1) : tE K W sa fa σ H Qk := by
  refine ⟨ρ, es, Fr, Hz, S, r, ?_⟩
  cases e : fa ρ with
  | stuck => rw [e] at q; exact q
  | exc C ns xs ρ' => rw [e] at q; exact q
  | ok x ρ1 =>
    rw [e] at q
    exact fun v H1 Hz1 es1 ez k1 S1 o1 => hk v x ρ1 es1 Hz1 H1 ez k1 S1 o1 (q.base ez fun z => ⟨k1 (hs z), z⟩)
/-- a part of a slice: left out, or a whole number -/
def evO (o : Option EF) : EF := match o with
  | none => eC .non
  | some f => f
def asO (o : Option EF) (x : RV) : Option (Option Int) := match o, x.d with
  | none, _ => some none
  | some _, .int i => some (some i)
  | some _, _ => none
def OPart (o : Option EF) (v : V) (i : Option Int) : Prop := match o with
  | none => i = none
  | some _ => ∃ j, v = .int j ∧ i = some j
def tO (K : PySem.W.Frag) (W : WX) (o : Option EF) : TO := fun σ H Q => tE K W true (evO o) σ H fun v H' => ∃ i, OPart o v i ∧ Q i H'
abbrev SO (X : Cx) (W : WX) (e : Option Expr) (o : Option EF) : Prop := PO X e (tO X.K W o)
theorem so_none : SO X W none none := by
  refine ⟨fun pins s σ H Q I h => po_none.run pins s σ H Q I ?_⟩
  obtain ⟨i, e, q⟩ := ec_ret (v := .non) h fun _ => .non
  cases e; exact q
theorem so_some (ha : SE X W true a fa) : SO X W (some a) (some fa) := by
  refine ⟨fun pins s σ H Q I h => (po_some ha).run pins s σ H Q I ?_⟩
  obtain ⟨ρ, es, Fr, Hz, S, r, q⟩ := h
  refine ⟨ρ, es, Fr, Hz, S, r, ?_⟩
  revert q
  show RetE _ _ _ _ _ _ _ (fa ρ) _ → RetE _ _ _ _ _ _ _ (fa ρ) _
  generalize fa ρ = rr
  intro q
  cases rr with
  | stuck => exact q
  | exc => exact q
  | ok x ρ' =>
    intro v H' Hz' es' e k S' o
    obtain ⟨i, ⟨j, e1, e2⟩, q2⟩ := q v H' Hz' es' e k S' o
    subst e2
    exact ⟨j, e1, q2⟩
def eSlc (fa : EF) (lo hi : Option EF) : EF := fun ρ => (fa ρ).bind fun x ρ1 => if (x.b && !true) = true then .stuck else (evO lo ρ1).bind fun l ρ2 => match asO lo l with
  | some i => (evO hi ρ2).bind fun h ρ3 => match asO hi h with
    | some j => opE (oSlc x i j) ρ3
    | none => .stuck
  | none => .stuck
theorem ok_slc {lo hi : Option Int} (r : R K es Hz H) (hx : View K Hz H v x) (hz : oSlc x lo hi = some z) (q : ∀ u H' Hz', Ex Hz Hz' → Ex H H' → RVok K Hz' H' u z es → Q u H') : rSlAll K v lo hi H Q := by
  unfold oSlc at hz
  split at hz
  · rename_i ds e
    split at hz
    · rename_i c
      cases hz
      obtain ⟨a, vs, A, rfl, h1, ow⟩ := hx.lst r.ex e
      exact .inl ⟨a, vs, rfl, .of h1, fun p hp => q _ _ Hz (Ex.refl _) (Ex.new hp) (new_lst r hp ((ow.one c).cut lo hi))⟩
    · cases hz
  · rename_i ds e
    cases hz
    obtain ⟨a, vs, rfl, h1, l⟩ := hx.frl e
    exact .inl ⟨a, vs, rfl, r.ex.sql h1, fun p hp => q _ _ Hz (Ex.refl _) (Ex.new hp) (new_lst r hp (l.cut lo hi))⟩
  · rename_i ds e
    cases hz
    obtain ⟨a, vs, rfl, h1, l⟩ := hx.tup e
    refine .inr (.inl ⟨a, vs, rfl, .of (r.ex _ _ h1), fun c => ?_, fun _ p hp => ?_⟩)
    · have e1 : cutV vs lo hi = vs := by
        unfold cutV
        rw [c.1, c.2, List.drop_zero, Nat.sub_zero, List.take_length]
      have l2 := l.cut lo hi
      rw [e1] at l2
      exact q _ H Hz (Ex.refl _) (Ex.refl _) (.pure (.tup h1 l2) r)
    · obtain ⟨e3, o3⟩ := new_tup r hp (l.cut lo hi)
      exact q _ _ _ e3 (Ex.new hp) o3
  · rename_i t e
    split at hz
    · rename_i c
      cases hz
      exact .inr (.inr ⟨t, hx.str e, big_line c, q _ H Hz (Ex.refl _) (Ex.refl _) (.pure (.str _) r)⟩)
    · cases hz
  · cases hz
theorem asO_ok {o : Option EF} {v : V} {i : Option Int} (h : asO o x = some i) (hv : View K Hz H v x) : OPart o v i := by
  unfold asO at h
  split at h
  · cases h; rfl
  · rename_i e
    cases h
    exact ⟨_, hv.int e, rfl⟩
  · cases h
theorem se_slc {lo hi : Option Expr} {ol oh : Option EF} {p2 : Pos} (ha : SE X W sa a fa) (hl : SO X W lo ol) (hh : SO X W hi oh) (hs : s = true → sa = true := by first | exact fun _ => rfl | (intro z; cases z)) : SE X W s (.Subscript a (.Slice lo hi none p2) pos) (eSlc fa ol oh) := by
  refine peImp (pe_slice sl_all ha hl hh) fun σ H Q q => ?_
  have q' : tE X.K W s (fun ρ => (fa ρ).bind fun x ρ1 => if (x.b && !true) = true then .stuck else (evO ol ρ1).bind fun y ρ2 => (fun l => fun ρ2 => match asO ol l with
    | some i => (evO oh ρ2).bind fun h ρ3 => match asO oh h with
      | some j => opE (oSlc x i j) ρ3
      | none => .stuck
    | none => .stuck) y ρ2) σ H Q := q
  have t := two (Qk := fun v w H2 => ∃ i, OPart ol w i ∧ tE X.K W true (evO oh) σ H2 fun u H3 => ∃ j, OPart oh u j ∧ rSlAll X.K v i j H3 Q) q' (fun z => ⟨hs z, rfl⟩)
    fun v w x y ρ2 es2 Fr Hz2 H2 Hz0 S2 r2 v1 v2 ez k q2 => ?_
  · obtain ⟨ρ, es, Fr, Hz, S, r, q3⟩ := t
    refine ⟨ρ, es, Fr, Hz, S, r, ?_⟩
    revert q3
    generalize fa ρ = rr
    intro q3
    cases rr with
    | stuck => exact q3
    | exc => exact q3
    | ok x ρ' =>
      intro v H' Hz' es' e k S' o
      obtain ⟨ρ4, es4, Fr4, Hz4, S4, r4, q4⟩ := q3 v H' Hz' es' e k S' o
      refine ⟨ρ4, es4, Fr4, Hz4, S4, r4, ?_⟩
      revert q4
      generalize evO ol ρ4 = rr
      intro q4
      cases rr with
      | stuck => exact q4
      | exc => exact q4
      | ok y ρ5 =>
        intro w H5 Hz5 es5 e5 k5 S5 o5
        obtain ⟨i, hi, t5⟩ := q4 w H5 Hz5 es5 e5 k5 S5 o5
        exact ⟨i, hi, t5⟩
  · have q3 := q2.base ez (s' := s) fun z => ⟨k z, z⟩
    cases e1 : asO ol y with
    | none => simp only [e1] at q3; exact q3.elim
    | some i =>
      simp only [e1] at q3
      refine ⟨i, asO_ok e1 v2, RetE.step S2 r2 q3 (fun _ => rfl) fun u h ρ3 es3 Hz3 H3 e3 k3 S3 o3 q4 => ?_⟩
      cases e2 : asO oh h with
      | none => simp only [e2] at q4; exact q4.elim
      | some j =>
        simp only [e2] at q4
        obtain ⟨z, hz, fin⟩ := opE_ok q4
        refine ⟨j, asO_ok e2 o3.view, ok_slc o3.rest (v1.mono e3 (k3 rfl)) hz fun u' H' Hz' a b c => ?_⟩
        rw [hz] at q4
        exact q4 u' H' Hz' es3 a (fun _ => b) S3 c
end
end Pd
end
section
/-! Pd: an owned object is changed. -/
namespace Pd
open PySem L2
section
variable {K : PySem.W.Frag} {Hz H : Hp} {es fs : List Ent}
theorem OwnE.split : ∀ {fs es : List Ent} {A : List Addr}, OwnE K Hz H (fs ++ es) A → ∃ B C, A = B ++ C ∧ OwnE K Hz H fs B ∧ OwnE K Hz H es C
  | [], _, A, h => ⟨[], A, rfl, .nil, h⟩
  | e :: fs, _, _, .cons h r => by
    obtain ⟨B, C, rfl, b, c⟩ := OwnE.split (fs := fs) r
    exact ⟨_, C, by rw [List.append_assoc], .cons h b, c⟩
/-- the object at a, owned by the head entry, becomes o; what stands in fs goes into it -/
theorem R.change2 {a : Addr} {o : HO} {v : V} {m : Nat} {d d' : D} (h : R K (⟨v, m, d⟩ :: (fs ++ es)) Hz H)
    (step : ∀ A C, Own K Hz H m v d A → OwnE K Hz H fs C → (A ++ C).Nodup → ∃ A' L, (A ++ C).Perm (A' ++ L) ∧ a ∈ A ∧ Own K Hz (upd H a o) m v d' A') : R K (⟨v, m, d'⟩ :: es) Hz (upd H a o) := by
  obtain ⟨ex, A, o', n, z⟩ := h
  cases o' with
  | @cons _ _ A1 B1 h r =>
    obtain ⟨B2, C2, rfl, b, c⟩ := OwnE.split r
    rw [← List.append_assoc] at n z
    obtain ⟨n1, n2, n3⟩ := List.nodup_append.mp n
    obtain ⟨A', L, p, inA, own⟩ := step A1 B2 h b n1
    have ac : a ∉ C2 := fun hm => n3 a (List.mem_append_left _ inA) a hm rfl
    have hz : Hz a = none := z a (List.mem_append_left _ (List.mem_append_left _ inA))
    have p2 : (A1 ++ B2 ++ C2).Perm (L ++ (A' ++ C2)) := by
      refine (p.append_right C2).trans ?_
      rw [← List.append_assoc L A' C2]
      exact List.perm_append_comm.append_right _
    refine ⟨ex.mut hz, A' ++ C2, .cons own (c.mono (Ex.refl _) fun x hx => upd_ne fun e => ac (e ▸ hx)), (List.nodup_append.mp (p2.nodup_iff.mp n)).2.1, fun x hx => z x (p2.mem_iff.mpr (List.mem_append_right _ hx))⟩
/-- two entries into one: the head is of a list -/
theorem Own.lst_inv {m : Nat} {v : V} {ds : List D} {A : List Addr} (h : Own K Hz H (m + 1) v (.lst ds) A) : ∃ a vs B, v = .ref a ∧ A = a :: B ∧ H a = some (.lst vs) ∧ OwnL K Hz H m vs ds B := by
  cases h with
  | fz c r => rcases c with c | c <;> cases c
  | lst h1 h2 => exact ⟨_, _, _, rfl, rfl, h1, h2⟩
theorem Own.dk_inv {m : Nat} {v : V} {ks : List Key} {ds : List D} {A : List Addr} (h : Own K Hz H (m + 1) v (.dk ks ds) A) : ∃ a vs B, v = .ref a ∧ A = a :: B ∧ H a = some (.dK (ks.zip vs)) ∧ ks.length = vs.length ∧ OwnL K Hz H m vs ds B := by
  cases h with
  | fz c r => rcases c with c | c <;> cases c
  | dk h1 l h2 => exact ⟨_, _, _, rfl, rfl, h1, l, h2⟩
theorem Own.dt_inv {m : Nat} {v : V} {ks : List (List Key)} {ds : List D} {A : List Addr} (h : Own K Hz H (m + 1) v (.dt ks ds) A) : ∃ a vs B, v = .ref a ∧ A = a :: B ∧ H a = some (.dT (ks.zip vs)) ∧ ks.length = vs.length ∧ OwnL K Hz H m vs ds B := by
  cases h with
  | fz c r => rcases c with c | c <;> cases c
  | dt h1 l h2 => exact ⟨_, _, _, rfl, rfl, h1, l, h2⟩
theorem Own.ins_inv {m : Nat} {v : V} {C : Nm} {ns : List Nm} {ds : List D} {A : List Addr} (h : Own K Hz H (m + 1) v (.ins C ns ds) A) : ∃ a dx vs B, v = .ref a ∧ A = a :: B ∧ H a = some (.ins (ca K C) dx ((ns.map Nm.str).zip vs)) ∧ ns.length = vs.length ∧ OwnL K Hz H m vs ds B := by
  cases h with
  | fz c r => rcases c with c | c <;> cases c
  | ins h1 l h2 => exact ⟨_, _, _, _, rfl, rfl, h1, l, h2⟩
theorem R.head_inv {e : Ent} (h : R K (e :: es) Hz H) : ∃ A, Own K Hz H e.m e.v e.d A := h.head
/-- the children keep, their own address aside -/
theorem OwnL.aside {m : Nat} {a : Addr} {o : HO} {vs : List V} {ds : List D} {B : List Addr} (h : OwnL K Hz H m vs ds B) (hn : a ∉ B) : OwnL K Hz (upd H a o) m vs ds B :=
  h.mono (Ex.refl _) fun b hb => upd_ne fun e => hn (e ▸ hb)
theorem Own.aside {m : Nat} {a : Addr} {o : HO} {v : V} {d : D} {B : List Addr} (h : Own K Hz H m v d B) (hn : a ∉ B) : Own K Hz (upd H a o) m v d B :=
  h.mono (Ex.refl _) fun b hb => upd_ne fun e => hn (e ▸ hb)
/-- an item at the end -/
theorem R.append {a : Addr} {vs : List V} {ds : List D} {m : Nat} {w : V} {d : D} (h : R K (⟨.ref a, m + 1, .lst ds⟩ :: ⟨w, m, d⟩ :: es) Hz H) (ha : H a = some (.lst vs)) : R K (⟨.ref a, m + 1, .lst (ds ++ [d])⟩ :: es) Hz (upd H a (.lst (vs ++ [w]))) := by
  refine R.change2 (fs := [⟨w, m, d⟩]) h fun A C hA hC n => ?_
  obtain ⟨a', vs', B, e1, rfl, h1, l⟩ := hA.lst_inv
  cases e1
  rw [ha] at h1; cases h1
  cases hC with
  | @cons _ _ C1 C2 hc hr =>
    cases hr
    rw [List.append_nil] at n ⊢
    have n' : a ∉ B ++ C1 := (List.nodup_cons.mp n).1
    refine ⟨a :: (B ++ (C1 ++ [])), [], by simp, List.mem_cons_self, .lst upd_same ((l.aside fun z => n' (List.mem_append_left _ z)).append (.cons (hc.aside fun z => n' (List.mem_append_right _ z)) .nil))⟩
/-- many frozen items at the end -/
theorem R.extend {a : Addr} {vs ws : List V} {ds fs : List D} (h : R K (⟨.ref a, 1, .lst ds⟩ :: es) Hz H) (ha : H a = some (.lst vs)) (hw : RpL K Hz ws fs) : R K (⟨.ref a, 1, .lst (ds ++ fs)⟩ :: es) Hz (upd H a (.lst (vs ++ ws))) := by
  refine R.change2 (fs := []) (es := es) h fun A C hA hC n => ?_
  obtain ⟨a', vs', B, e1, rfl, h1, l⟩ := hA.lst_inv
  cases e1
  rw [ha] at h1; cases h1
  cases hC
  obtain ⟨rfl, l0⟩ := l.zero
  exact ⟨[a], [], by simp, List.mem_cons_self, .lst upd_same (OwnL.of_zero 0 (l0.append hw))⟩
theorem OwnL.setI {m : Nat} {w : V} {d : D} {C : List Addr} (hw : Own K Hz H m w d C) : ∀ {vs : List V} {ds : List D} {A : List Addr} (i : Nat), i < ds.length → OwnL K Hz H m vs ds A → ∃ A' L, (A ++ C).Perm (A' ++ L) ∧ OwnL K Hz H m (vs.set i w) (ds.set i d) A'
  | _, _, _, _, hi, .nil => by simp at hi
  | _, _, _, 0, _, .cons (A := A) (B := B) h r => ⟨C ++ B, A, by
      rw [List.append_assoc]
      exact List.perm_append_comm.trans (List.perm_append_comm.append_right _), .cons hw r⟩
  | _, _, _, i + 1, hi, .cons (A := A) (B := B) h r => by
    obtain ⟨A', L, p, q⟩ := OwnL.setI hw i (by simpa using hi) r
    exact ⟨A ++ A', L, by rw [List.append_assoc, List.append_assoc]; exact p.append_left _, .cons h q⟩
/-- an item is replaced -/
theorem R.setI {a : Addr} {vs : List V} {ds : List D} {m i : Nat} {w : V} {d : D} (hi : i < ds.length) (h : R K (⟨.ref a, m + 1, .lst ds⟩ :: ⟨w, m, d⟩ :: es) Hz H) (ha : H a = some (.lst vs)) : R K (⟨.ref a, m + 1, .lst (ds.set i d)⟩ :: es) Hz (upd H a (.lst (vs.set i w))) := by
  refine R.change2 (fs := [⟨w, m, d⟩]) h fun A C hA hC n => ?_
  obtain ⟨a', vs', B, e1, rfl, h1, l⟩ := hA.lst_inv
  cases e1
  rw [ha] at h1; cases h1
  cases hC with
  | @cons _ _ C1 C2 hc hr =>
    cases hr
    rw [List.append_nil] at n ⊢
    have n' : a ∉ B ++ C1 := (List.nodup_cons.mp n).1
    obtain ⟨A', L, p, q⟩ := OwnL.setI (hc.aside (o := .lst (vs.set i w)) fun z => n' (List.mem_append_right _ z)) i hi (l.aside fun z => n' (List.mem_append_left _ z))
    exact ⟨a :: A', L, by rw [List.cons_append, List.cons_append]; exact p.cons _, List.mem_cons_self, .lst upd_same q⟩
/-- the last item is taken -/
theorem OwnL.init {m : Nat} : ∀ {vs : List V} {ds : List D} {A : List Addr}, OwnL K Hz H m vs ds A → ∃ A' L, A.Perm (A' ++ L) ∧ OwnL K Hz H m vs.dropLast ds.dropLast A'
  | _, _, _, .nil => ⟨[], [], by simp, .nil⟩
  | _, _, _, .cons (A := A) h .nil => ⟨[], A, by simp, .nil⟩
  | _, _, _, .cons (A := A) h (.cons h2 r) => by
    obtain ⟨A', L, p, q⟩ := OwnL.init (.cons h2 r)
    exact ⟨A ++ A', L, by rw [List.append_assoc]; exact p.append_left _, .cons h q⟩
theorem R.init {a : Addr} {vs : List V} {ds : List D} {m : Nat} (h : R K (⟨.ref a, m + 1, .lst ds⟩ :: es) Hz H) (ha : H a = some (.lst vs)) : R K (⟨.ref a, m + 1, .lst ds.dropLast⟩ :: es) Hz (upd H a (.lst vs.dropLast)) := by
  refine R.change2 (fs := []) (es := es) h fun A C hA hC n => ?_
  obtain ⟨a', vs', B, e1, rfl, h1, l⟩ := hA.lst_inv
  cases e1
  rw [ha] at h1; cases h1
  cases hC
  rw [List.append_nil] at n ⊢
  obtain ⟨A', L, p, q⟩ := (l.aside (o := .lst vs.dropLast) (List.nodup_cons.mp n).1).init
  exact ⟨a :: A', L, p.cons _, List.mem_cons_self, .lst upd_same q⟩
/-! fields -/
def putNs (f : Nm) : List Nm → List Nm
  | [] => [f]
  | n :: ns => if n = f then n :: ns else n :: putNs f ns
def putDs (f : Nm) (d : D) : List Nm → List D → List D
  | n :: ns, e :: ds => if n = f then d :: ds else e :: putDs f d ns ds
  | _, _ => [d]
theorem OwnL.putN {m : Nat} {w : V} {d : D} {C : List Addr} {f : Nm} (inj : ∀ n : Nm, n.str = f.str → n = f) (hw : Own K Hz H m w d C) : ∀ {ns : List Nm} {vs : List V} {ds : List D} {A : List Addr}, ns.length = vs.length → OwnL K Hz H m vs ds A →
    ∃ vs' A' L, putF f.str w ((ns.map Nm.str).zip vs) = ((putNs f ns).map Nm.str).zip vs' ∧ (putNs f ns).length = vs'.length ∧ (A ++ C).Perm (A' ++ L) ∧ OwnL K Hz H m vs' (putDs f d ns ds) A'
  | [], _, _, _, _, .nil => ⟨[w], C ++ [], [], rfl, rfl, by simp, .cons hw .nil⟩
  | [], _ :: _, _, _, l, _ => by simp at l
  | _ :: _, [], _, _, l, _ => by simp at l
  | n :: ns, v :: vs, _, _, l, .cons (d := e) (ds := ds) (A := A) (B := B) h r => by
    rw [List.map_cons, List.zip_cons_cons]
    unfold putNs putDs
    by_cases c : n = f
    · subst c
      refine ⟨w :: vs, C ++ B, A, ?_, by rw [if_pos rfl, List.length_cons, List.length_cons]; simpa using l, ?_, by rw [if_pos rfl]; exact .cons hw r⟩
      · rw [if_pos rfl]
        show (if n.str = n.str then _ else _) = _
        rw [if_pos rfl]
        rfl
      · rw [List.append_assoc]
        exact List.perm_append_comm.trans (List.perm_append_comm.append_right _)
    · obtain ⟨vs', A', L, e1, e2, p, q⟩ := OwnL.putN inj hw (ns := ns) (by simpa using l) r
      refine ⟨v :: vs', A ++ A', L, ?_, by rw [if_neg c, List.length_cons, List.length_cons, e2], ?_, by rw [if_neg c]; exact .cons h q⟩
      · rw [if_neg c]
        show (if n.str = f.str then _ else _) = _
        rw [if_neg fun z => c (inj n z), e1]
        rfl
      · rw [List.append_assoc, List.append_assoc]
        exact p.append_left _
theorem R.putN {a dx : Addr} {C : Nm} {ns : List Nm} {vs : List V} {ds : List D} {m : Nat} {w : V} {d : D} {f : Nm} (inj : ∀ n : Nm, n.str = f.str → n = f) (h : R K (⟨.ref a, m + 1, .ins C ns ds⟩ :: ⟨w, m, d⟩ :: es) Hz H) (ha : H a = some (.ins (ca K C) dx ((ns.map Nm.str).zip vs))) (l : ns.length = vs.length) :
    R K (⟨.ref a, m + 1, .ins C (putNs f ns) (putDs f d ns ds)⟩ :: es) Hz (upd H a (.ins (ca K C) dx (putF f.str w ((ns.map Nm.str).zip vs)))) := by
  refine R.change2 (fs := [⟨w, m, d⟩]) h fun A C' hA hC n => ?_
  obtain ⟨a', dx', vs', B, e1, rfl, h1, l1, ow⟩ := hA.ins_inv
  cases e1
  rw [ha] at h1
  have ev : vs = vs' := by
    have e2 : (ns.map Nm.str).zip vs = (ns.map Nm.str).zip vs' := by
      have := Option.some.inj h1
      injection this
    have e3 := congrArg (List.map Prod.snd) e2
    rw [List.map_snd_zip (by rw [List.length_map]; omega), List.map_snd_zip (by rw [List.length_map]; omega)] at e3
    exact e3
  subst ev
  cases hC with
  | @cons _ _ C1 C2 hc hr =>
    cases hr
    rw [List.append_nil] at n ⊢
    have n' : a ∉ B ++ C1 := (List.nodup_cons.mp n).1
    obtain ⟨vs', A', L, e1, e2, p, q⟩ := OwnL.putN inj (hc.aside (a := a) (o := .ins (ca K C) dx (putF f.str w ((ns.map Nm.str).zip vs))) fun z => n' (List.mem_append_right _ z)) l (ow.aside fun z => n' (List.mem_append_left _ z))
    refine ⟨a :: A', L, by rw [List.cons_append, List.cons_append]; exact p.cons _, List.mem_cons_self, .ins (dx := dx) ?_ e2 q⟩
    rw [upd_same, e1]
/-! dicts -/
def putKs {κ : Type} [DecidableEq κ] (k : κ) : List κ → List κ
  | [] => [k]
  | k0 :: ks => if k0 = k then k0 :: ks else k0 :: putKs k ks
def putKd {κ : Type} [DecidableEq κ] (k : κ) (d : D) : List κ → List D → List D
  | k0 :: ks, e :: ds => if k0 = k then d :: ds else e :: putKd k d ks ds
  | _, _ => [d]
theorem putK_cons_pos {κ : Type} [DecidableEq κ] {p : κ × V} {r : List (κ × V)} {k : κ} {v : V} (e : p.1 = k) (n : valV r k = none) : putK (p :: r) k v = (p.1, v) :: r := by
  unfold putK
  rw [valV_any, valV_pos e]
  show (if true = true then _ else _) = _
  rw [if_pos rfl, List.map_cons, if_pos e]
  congr 1
  have : ∀ q ∈ r, ¬ q.1 = k := fun q hq z => by
    have h1 : (r.any fun kv => decide (kv.1 = k)) = true := List.any_eq_true.mpr ⟨q, hq, decide_eq_true z⟩
    rw [valV_any, n] at h1
    cases h1
  have e3 : r.map (fun kv => if kv.1 = k then (kv.1, v) else kv) = r.map id := List.map_congr_left fun q hq => if_neg (this q hq)
  rw [e3, List.map_id]
theorem putK_cons_neg {κ : Type} [DecidableEq κ] {p : κ × V} {r : List (κ × V)} {k : κ} {v : V} (e : ¬ p.1 = k) : putK (p :: r) k v = p :: putK r k v := by
  unfold putK
  rw [valV_any, valV_any, valV_neg e]
  by_cases c : (valV r k).isSome = true
  · rw [if_pos c, if_pos c, List.map_cons, if_neg e]
  · rw [if_neg c, if_neg c, List.cons_append]
theorem OwnL.putK {κ : Type} [DecidableEq κ] {m : Nat} {w : V} {d : D} {C : List Addr} {k : κ} (hw : Own K Hz H m w d C) : ∀ {ks : List κ} {vs : List V} {ds : List D} {A : List Addr}, ks.Nodup → ks.length = vs.length → OwnL K Hz H m vs ds A →
    ∃ vs' A' L, L2.putK (ks.zip vs) k w = (putKs k ks).zip vs' ∧ (putKs k ks).length = vs'.length ∧ (A ++ C).Perm (A' ++ L) ∧ OwnL K Hz H m vs' (putKd k d ks ds) A'
  | [], _, _, _, _, _, .nil => ⟨[w], C ++ [], [], rfl, rfl, by simp, .cons hw .nil⟩
  | [], _ :: _, _, _, _, l, _ => by simp at l
  | _ :: _, [], _, _, _, l, _ => by simp at l
  | k0 :: ks, v :: vs, _, _, nd, l, .cons (d := e) (ds := ds) (A := A) (B := B) h r => by
    rw [List.zip_cons_cons]
    unfold putKs putKd
    by_cases c : k0 = k
    · subst c
      refine ⟨w :: vs, C ++ B, A, ?_, by rw [if_pos rfl, List.length_cons, List.length_cons]; simpa using l, ?_, by rw [if_pos rfl]; exact .cons hw r⟩
      · rw [if_pos rfl, putK_cons_pos (p := (k0, v)) rfl ?_]
        · rfl
        · cases q : valV (ks.zip vs) k0 with
          | none => rfl
          | some x =>
            have h1 : ((ks.zip vs).any fun kv => decide (kv.1 = k0)) = true := by rw [valV_any, q]; rfl
            obtain ⟨z, hz, ez⟩ := List.any_eq_true.mp h1
            exact absurd (of_decide_eq_true ez ▸ (List.of_mem_zip hz).1) (List.nodup_cons.mp nd).1
      · rw [List.append_assoc]
        exact List.perm_append_comm.trans (List.perm_append_comm.append_right _)
    · obtain ⟨vs', A', L, e1, e2, p, q⟩ := OwnL.putK hw (ks := ks) (List.nodup_cons.mp nd).2 (by simpa using l) r
      refine ⟨v :: vs', A ++ A', L, ?_, by rw [if_neg c, List.length_cons, List.length_cons, e2], ?_, by rw [if_neg c]; exact .cons h q⟩
      · rw [if_neg c, putK_cons_neg (p := (k0, v)) c, e1]
        rfl
      · rw [List.append_assoc, List.append_assoc]
        exact p.append_left _
theorem zip_inj {α : Type} {ks : List α} {vs vs' : List V} (l : ks.length = vs.length) (l' : ks.length = vs'.length) (e : ks.zip vs = ks.zip vs') : vs = vs' := by
  have e3 := congrArg (List.map Prod.snd) e
  rw [List.map_snd_zip (by omega), List.map_snd_zip (by omega)] at e3
  exact e3
theorem R.putDk {a : Addr} {ks : List Key} {vs : List V} {ds : List D} {m : Nat} {w : V} {d : D} {k : Key} (nd : ks.Nodup) (h : R K (⟨.ref a, m + 1, .dk ks ds⟩ :: ⟨w, m, d⟩ :: es) Hz H) (ha : H a = some (.dK (ks.zip vs))) (l : ks.length = vs.length) :
    R K (⟨.ref a, m + 1, .dk (putKs k ks) (putKd k d ks ds)⟩ :: es) Hz (upd H a (.dK (L2.putK (ks.zip vs) k w))) := by
  refine R.change2 (fs := [⟨w, m, d⟩]) h fun A C' hA hC n => ?_
  obtain ⟨a', vs', B, e1, rfl, h1, l1, ow⟩ := hA.dk_inv
  cases e1
  rw [ha] at h1
  have ev : vs = vs' := zip_inj l l1 (by have := Option.some.inj h1; injection this)
  subst ev
  cases hC with
  | @cons _ _ C1 C2 hc hr =>
    cases hr
    rw [List.append_nil] at n ⊢
    have n' : a ∉ B ++ C1 := (List.nodup_cons.mp n).1
    obtain ⟨vs', A', L, e1, e2, p, q⟩ := OwnL.putK (k := k) (hc.aside (a := a) (o := .dK (L2.putK (ks.zip vs) k w)) fun z => n' (List.mem_append_right _ z)) nd l (ow.aside fun z => n' (List.mem_append_left _ z))
    refine ⟨a :: A', L, by rw [List.cons_append, List.cons_append]; exact p.cons _, List.mem_cons_self, .dk ?_ e2 q⟩
    rw [upd_same, e1]
theorem R.putDt {a : Addr} {ks : List (List Key)} {vs : List V} {ds : List D} {m : Nat} {w : V} {d : D} {k : List Key} (nd : ks.Nodup) (h : R K (⟨.ref a, m + 1, .dt ks ds⟩ :: ⟨w, m, d⟩ :: es) Hz H) (ha : H a = some (.dT (ks.zip vs))) (l : ks.length = vs.length) :
    R K (⟨.ref a, m + 1, .dt (putKs k ks) (putKd k d ks ds)⟩ :: es) Hz (upd H a (.dT (L2.putK (ks.zip vs) k w))) := by
  refine R.change2 (fs := [⟨w, m, d⟩]) h fun A C' hA hC n => ?_
  obtain ⟨a', vs', B, e1, rfl, h1, l1, ow⟩ := hA.dt_inv
  cases e1
  rw [ha] at h1
  have ev : vs = vs' := zip_inj l l1 (by have := Option.some.inj h1; injection this)
  subst ev
  cases hC with
  | @cons _ _ C1 C2 hc hr =>
    cases hr
    rw [List.append_nil] at n ⊢
    have n' : a ∉ B ++ C1 := (List.nodup_cons.mp n).1
    obtain ⟨vs', A', L, e1, e2, p, q⟩ := OwnL.putK (k := k) (hc.aside (a := a) (o := .dT (L2.putK (ks.zip vs) k w)) fun z => n' (List.mem_append_right _ z)) nd l (ow.aside fun z => n' (List.mem_append_left _ z))
    refine ⟨a :: A', L, by rw [List.cons_append, List.cons_append]; exact p.cons _, List.mem_cons_self, .dt ?_ e2 q⟩
    rw [upd_same, e1]
end
end Pd
end
section
/-! Pd: statements. -/
namespace Pd
open PySem L2
/-- the slots at U hold what they held -/
def Fix (U : List Nat) (σ σ' : L2.St) : Prop := ∀ i ∈ U, σ'[i]? = σ[i]?
theorem Fix.refl (U : List Nat) (σ : L2.St) : Fix U σ σ := fun _ _ => rfl
theorem Fix.trans {U : List Nat} {σ σ1 σ2 : L2.St} (a : Fix U σ σ1) (b : Fix U σ1 σ2) : Fix U σ σ2 := fun i hi => (b i hi).trans (a i hi)
theorem Fix.set {U : List Nat} {σ : L2.St} {i : Nat} {x : Option V} (h : i ∉ U) : Fix U σ (σ.set i x) := fun j hj => List.getElem?_set_ne fun e => h (by rw [e]; exact hj)
def RetS (K : PySem.W.Frag) (Fr : List Ent) (σ : L2.St) (U : List Nat) (Hz : Hp) (W : WX) (r : RS) (D : Ends) : Prop := match r with
  | .nx ρ' => ∀ σ' H' Hz' es', Ex Hz Hz' → Fix U σ σ' → Slots σ' ρ' es' → R K (es' ++ Fr) Hz' H' → D.nx σ' H'
  | .bk ρ' => ∀ σ' H' Hz' es', Ex Hz Hz' → Fix U σ σ' → Slots σ' ρ' es' → R K (es' ++ Fr) Hz' H' → D.bk σ' H'
  | .ct ρ' => ∀ σ' H' Hz' es', Ex Hz Hz' → Fix U σ σ' → Slots σ' ρ' es' → R K (es' ++ Fr) Hz' H' → D.ct σ' H'
  | .rt x ρ' => x.b = false ∧ ∀ v σ' H' Hz' es', Ex Hz Hz' → Fix U σ σ' → Slots σ' ρ' es' → R K (⟨v, x.q, x.d⟩ :: (es' ++ Fr)) Hz' H' → D.rt v H'
  | .exc C ns xs ρ' => ∀ dx σ' H' Hz' es', Ex Hz Hz' → Fix U σ σ' → ExcAt K Hz' ns xs dx → Slots σ' ρ' es' → R K (es' ++ Fr) Hz' H' → W (.ref (ca K C)) dx σ' H'
  | .stuck => False
def tS (K : PySem.W.Frag) (W : WX) (U : List Nat) (f : SF) : TS := fun D σ H => ∃ ρ es Fr Hz, Slots σ ρ es ∧ R K (es ++ Fr) Hz H ∧ RetS K Fr σ U Hz W (f ρ) D
abbrev SS (X : Cx) (W : WX) (U : List Nat) (st : Stmt) (f : SF) : Prop := PS X st (tS X.K W U f)
abbrev SB (X : Cx) (W : WX) (U : List Nat) (sts : List Stmt) (f : SF) : Prop := PSs X sts (tS X.K W U f)
section
variable {X : Cx} {W : WX} {U : List Nat} {s sa sb sc : Bool} {pos : Pos} {K : PySem.W.Frag} {fa fb fc : EF} {f g : SF} {σ σ' : L2.St} {H Hz Hz' : Hp} {D : Ends} {a b c : Expr} {es : List Ent} {v : V} {x z : RV} {st : Stmt} {rest : List Stmt}
theorem RetS.base {Fr : List Ent} {r : RS} (q : RetS K Fr σ U Hz W r D) (ez : Ex Hz Hz') (fx : Fix U σ σ') : RetS K Fr σ' U Hz' W r D := by
  cases r with
  | stuck => exact q
  | nx ρ => exact fun τ H' Hz2 es' e f S r => q τ H' Hz2 es' (ez.trans e) (fx.trans f) S r
  | bk ρ => exact fun τ H' Hz2 es' e f S r => q τ H' Hz2 es' (ez.trans e) (fx.trans f) S r
  | ct ρ => exact fun τ H' Hz2 es' e f S r => q τ H' Hz2 es' (ez.trans e) (fx.trans f) S r
  | rt x ρ => exact ⟨q.1, fun v τ H' Hz2 es' e f S r => q.2 v τ H' Hz2 es' (ez.trans e) (fx.trans f) S r⟩
  | exc C ns xs ρ => exact fun dx τ H' Hz2 es' e f x S r => q dx τ H' Hz2 es' (ez.trans e) (fx.trans f) x S r
theorem RetS.ends {Fr : List Ent} {r : RS} {D' : Ends} (q : RetS K Fr σ U Hz W r D) (h1 : ∀ σ H, D.nx σ H → D'.nx σ H) (h2 : D'.rt = D.rt) (h3 : D'.bk = D.bk) (h4 : D'.ct = D.ct) : RetS K Fr σ U Hz W r D' := by
  cases r with
  | stuck => exact q
  | nx ρ => exact fun τ H' Hz2 es' e f S r => h1 _ _ (q τ H' Hz2 es' e f S r)
  | bk ρ => exact fun τ H' Hz2 es' e f S r => by rw [h3]; exact q τ H' Hz2 es' e f S r
  | ct ρ => exact fun τ H' Hz2 es' e f S r => by rw [h4]; exact q τ H' Hz2 es' e f S r
  | rt x ρ => exact ⟨q.1, fun v τ H' Hz2 es' e f S r => by rw [h2]; exact q.2 v τ H' Hz2 es' e f S r⟩
  | exc C ns xs ρ => exact q
@[simp] def RS.bind (r : RS) (f : SF) : RS := match r with
  | .nx ρ => f ρ
  | r => r
def sNil : SF := fun ρ => .nx ρ
def sSeq (f g : SF) : SF := fun ρ => (f ρ).bind g
theorem sb_nil : SB X W U [] sNil := pssImp pss_nil fun D σ H ⟨ρ, es, Fr, Hz, S, r, q⟩ => q σ H Hz es (Ex.refl _) (Fix.refl _ _) S r
theorem seq_core (h : tS K W U (sSeq f g) D σ H) : tSeq (tS K W U f) (tS K W U g) D σ H := by
  obtain ⟨ρ, es, Fr, Hz, S, r, q⟩ := h
  refine ⟨ρ, es, Fr, Hz, S, r, ?_⟩
  unfold sSeq at q
  cases e : f ρ with
  | stuck => rw [e] at q; exact q
  | nx ρ1 =>
    rw [e] at q
    exact fun σ1 H1 Hz1 es1 ez fx S1 r1 => ⟨ρ1, es1, Fr, Hz1, S1, r1, q.base ez fx⟩
  | bk ρ1 => rw [e] at q; exact q
  | ct ρ1 => rw [e] at q; exact q
  | rt x ρ1 => rw [e] at q; exact q
  | exc C ns xs ρ1 => rw [e] at q; exact q
theorem sb_cons (h1 : SS X W U st f) (h2 : SB X W U rest g) : SB X W U (st :: rest) (sSeq f g) := pssImp (pss_cons h1 h2) fun D σ H q => seq_core q
theorem sb_one (h1 : SS X W U st f) : SB X W U [st] f := pss_one h1
/-- code that is never come to -/
def sNever : SF := fun _ => .stuck
theorem ss_never : SS X W U st sNever := psImp ps_never fun D σ H ⟨ρ, es, Fr, Hz, S, r, q⟩ => q
theorem sb_never {sts : List Stmt} : SB X W U sts sNever := pssImp pss_never fun D σ H ⟨ρ, es, Fr, Hz, S, r, q⟩ => q
theorem ss_pass : SS X W U (.Pass pos) sNil := psImp ps_pass fun D σ H ⟨ρ, es, Fr, Hz, S, r, q⟩ => q σ H Hz es (Ex.refl _) (Fix.refl _ _) S r
def sBk : SF := fun ρ => .bk ρ
def sCt : SF := fun ρ => .ct ρ
theorem ss_break : SS X W U (.Break pos) sBk := psImp ps_break fun D σ H ⟨ρ, es, Fr, Hz, S, r, q⟩ => q σ H Hz es (Ex.refl _) (Fix.refl _ _) S r
theorem ss_continue : SS X W U (.Continue pos) sCt := psImp ps_continue fun D σ H ⟨ρ, es, Fr, Hz, S, r, q⟩ => q σ H Hz es (Ex.refl _) (Fix.refl _ _) S r
/-- an expression, then a statement's end -/
theorem oneS {k : RV → SF} {Qk : V → Hp → Prop} (h : tS K W U (fun ρ => (fa ρ).bindS k) D σ H)
    (hk : ∀ v x ρ1 es1 Fr Hz1 H1, Slots σ ρ1 es1 → RVok K Hz1 H1 v x (es1 ++ Fr) → RetS K Fr σ U Hz1 W (k x ρ1) D → Qk v H1) : tE K W sa fa σ H Qk := by
  obtain ⟨ρ, es, Fr, Hz, S, r, q⟩ := h
  refine ⟨ρ, es, Fr, Hz, S, r, ?_⟩
  dsimp only at q
  cases e : fa ρ with
  | stuck => rw [e] at q; exact q
  | exc C ns xs ρ' =>
    rw [e] at q
    exact fun dx H' Hz' es' ez x S r => q dx σ H' Hz' es' ez (Fix.refl _ _) x S r
  | ok x ρ1 =>
    rw [e] at q
    exact fun v H1 Hz1 es1 ez k1 S1 o1 => hk v x ρ1 es1 Fr Hz1 H1 S1 o1 (q.base ez (Fix.refl _ _))
/-- e -/
def sEx (fa : EF) : SF := fun ρ => (fa ρ).bindS fun _ ρ1 => .nx ρ1
theorem ss_expr (ha : SE X W s a fa) (hs : swapsWith a none pos.line X.env = pure false := by rfl) : SS X W U (.Expr a pos) (sEx fa) := by
  refine psImp (ps_expr ha hs) fun D σ H q => ?_
  exact oneS q fun v x ρ1 es1 Fr Hz1 H1 S o q => q σ H1 Hz1 es1 (Ex.refl _) (Fix.refl _ _) S o.rest
/-- return e -/
def sRt (fa : EF) : SF := fun ρ => (fa ρ).bindS fun x ρ1 => .rt x ρ1
theorem ss_ret (ha : SE X W s a fa) : SS X W U (.Return (some a) pos) (sRt fa) := by
  refine psImp (ps_ret ha) fun D σ H q => ?_
  exact oneS q fun v x ρ1 es1 Fr Hz1 H1 S o q => q.2 v σ H1 Hz1 es1 (Ex.refl _) (Fix.refl _ _) S (o.own q.1)
def sRtN : SF := fun ρ => .rt (pureV .non) ρ
theorem ss_retN : SS X W U (.Return none pos) sRtN := psImp ps_retN fun D σ H ⟨ρ, es, Fr, Hz, S, r, q⟩ => q.2 .non σ H Hz es (Ex.refl _) (Fix.refl _ _) S (r.put (.inl rfl) .non)
/-- if -/
def sIf (fc : EF) (f g : SF) : SF := fun ρ => (fc ρ).bindS fun x ρ1 => match x.d with
  | .bl true => f ρ1
  | .bl false => g ρ1
  | _ => .stuck
theorem ss_if {A B : List Stmt} (hc : ST X W s c fc) (ha : SB X W U A f) (hb : SB X W U B g) : SS X W U (.If c A B pos) (sIf fc f g) := by
  refine psImp (ps_if hc ha hb) fun D σ H q => ?_
  refine oneS q fun v x ρ1 es1 Fr Hz1 H1 S o q => ?_
  split at q
  · rename_i e
    exact ⟨true, o.bl e, iteT ⟨ρ1, es1, Fr, Hz1, S, o.rest, q⟩⟩
  · rename_i e
    exact ⟨false, o.bl e, iteF ⟨ρ1, es1, Fr, Hz1, S, o.rest, q⟩⟩
  · exact q.elim
/-- x = e -/
def sAs (i : Nat) (fa : EF) : SF := fun ρ => (fa ρ).bindS fun x ρ1 => if x.b = false ∧ i < ρ1.length then .nx (ρ1.set i (some (x.q, x.d))) else .stuck
theorem store_core {i : Nat} {Fr : List Ent} {ρ1 : Vr} {es1 : List Ent} (S : Slots σ ρ1 es1) (o : RVok K Hz H v x (es1 ++ Fr)) (hb : x.b = false) (hi : i < ρ1.length) :
    ∃ es', Slots (σ.set i (some v)) (ρ1.set i (some (x.q, x.d))) es' ∧ R K (es' ++ Fr) Hz H := by
  obtain ⟨es2, dr, es', h1, h2, h3⟩ := S.store (v := v) (m := x.q) (d := x.d) hi
  refine ⟨es', h1, ?_⟩
  have r1 := (o.own hb).perm ((h3.append_right Fr).cons ⟨v, x.q, x.d⟩)
  rw [List.append_assoc] at r1
  have r2 : R K (dr ++ (⟨v, x.q, x.d⟩ :: (es2 ++ Fr))) Hz H := r1.perm List.perm_middle.symm
  exact r2.right.perm (h2.append_right Fr).symm
theorem asg_core {i : Nat} (hu : i ∉ U) (q : tS K W U (sAs i fa) D σ H) : tAsg (tE K W sa fa) (gName i) D σ H := by
  refine oneS q fun v x ρ1 es1 Fr Hz1 H1 S o q => ?_
  split at q
  · rename_i c
    obtain ⟨es', S', r'⟩ := store_core S o c.1 c.2
    exact q _ H1 Hz1 es' (Ex.refl _) (Fix.set hu) S' r'
  · exact q.elim
theorem ss_set (i : Nat) {x : Str} {p : Pos} (ha : SE X W s a fa) (hu : i ∉ U := by decide) (hN : X.N.Nodup) (hi : X.N[i]? = some x := by rfl) (hx : Loc X.env.scope x := by first | exact Or.inl rfl | exact Or.inr rfl) (hs : swapsWith a (some (.Name x p)) pos.line X.env = pure false := by rfl) (hf : X.fn x = true ∨ X.env.scope.names.lookup x = some .local := by first | exact .inl rfl | exact .inr rfl) :
    SS X W U (.Assign [.Name x p] a pos) (sAs i fa) := psImp (ps_set hN hi hx ha hs hf) fun D σ H q => asg_core hu q
/-- a, b = e -/
def setAll : List Nat → List Pd.D → Vr → Option Vr
  | [], [], ρ => some ρ
  | i :: is, d :: ds, ρ => if i < ρ.length then setAll is ds (ρ.set i (some (0, d))) else none
  | _, _, _ => none
def sTp (is : List Nat) (fa : EF) : SF := fun ρ => (fa ρ).bindS fun x ρ1 => match x.d with
  | .tup ds => match setAll is ds ρ1 with
    | some ρ2 => .nx ρ2
    | none => .stuck
  | _ => .stuck
def gNames : List Nat → TGs
  | [] => gNil
  | i :: is => gCons (gName i) (gNames is)
theorem names_core {Q : L2.St → Hp → Prop} : ∀ {is : List Nat} {vs : List V} {ds : List Pd.D} {ρ ρ2 : Vr} {es : List Ent} {Fr : List Ent} {σ : L2.St}, (∀ i ∈ is, i ∉ U) → RpL K Hz vs ds → setAll is ds ρ = some ρ2 → Slots σ ρ es → R K (es ++ Fr) Hz H →
    (∀ σ' es', Fix U σ σ' → Slots σ' ρ2 es' → R K (es' ++ Fr) Hz H → Q σ' H) → gNames is vs σ H Q
  | [], [], [], ρ, _, es, Fr, σ, _, _, e, S, r, h => by
    cases e
    exact ⟨rfl, h σ es (Fix.refl _ _) S r⟩
  | i :: is, v :: vs, d :: ds, ρ, ρ2, es, Fr, σ, hu, .cons hd l, e, S, r, h => by
    unfold setAll at e
    split at e
    · rename_i hi
      obtain ⟨es', S', r'⟩ := store_core (x := pureV d) S (RVok.pure hd r) rfl hi
      exact ⟨v, vs, rfl, names_core (fun j hj => hu j (List.mem_cons_of_mem _ hj)) l e S' r' fun σ' es2 fx S2 r2 => h σ' es2 ((Fix.set (hu i List.mem_cons_self)).trans fx) S2 r2⟩
    · cases e
  | [], _ :: _, _ :: _, _, _, _, _, _, _, _, e, _, _, _ => by simp [setAll] at e
  | _ :: _, [], [], _, _, _, _, _, _, _, e, _, _, _ => by simp [setAll] at e
  | [], [], _ :: _, _, _, _, _, _, _, l, _, _, _, _ => by cases l
  | [], _ :: _, [], _, _, _, _, _, _, l, _, _, _, _ => by cases l
  | _ :: _, [], _ :: _, _, _, _, _, _, _, l, _, _, _, _ => by cases l
  | _ :: _, _ :: _, [], _, _, _, _, _, _, l, _, _, _, _ => by cases l
theorem setAll_len : ∀ {is : List Nat} {ds : List Pd.D} {ρ ρ2 : Vr}, setAll is ds ρ = some ρ2 → is.length = ds.length
  | [], [], _, _, _ => rfl
  | i :: is, d :: ds, ρ, ρ2, e => by
    unfold setAll at e
    split at e
    · rw [List.length_cons, List.length_cons, setAll_len e]
    · cases e
  | [], _ :: _, _, _, e => by simp [setAll] at e
  | _ :: _, [], _, _, e => by simp [setAll] at e
theorem ss_tup {tgs : List Expr} {k : Nat} {p : Pos} (is : List Nat) (hc : X.calm = true) (ha : SE X W s a fa) (hg : PGs X tgs (gNames is)) (hu : ∀ i ∈ is, i ∉ U := by decide) (hn : (assignEach tgs X.env).length = is.length := by rfl) (hst : (assignEach tgs X.env).findIdx? (·.1) = none := by rfl)
    (hs : swapsWithSole [.Tuple tgs k p] a pos.line X.env = pure false := by rfl) (hw : swappedStores [.Tuple tgs k p] a X.env = pure none := by rfl) (h1 : (assignEach [.Tuple tgs k p] X.env).map (·.2) = [assign (.Tuple tgs k p) X.env] := by rfl) : SS X W U (.Assign [.Tuple tgs k p] a pos) (sTp is fa) := by
  refine psImp (ps_asg ha (pg_tup hc hg hn hst) hs hw h1) fun D σ H q => ?_
  refine oneS q fun v x ρ1 es1 Fr Hz1 H1 S o q => ?_
  split at q
  · rename_i ds e
    split at q
    · rename_i ρ2 e2
      obtain ⟨a, vs, rfl, h1, l⟩ := o.view.tup e
      refine ⟨a, vs, rfl, .of (o.rest.ex _ _ h1), by rw [l.length, setAll_len e2], names_core hu l e2 S o.rest fun σ' es' fx S' r' => q σ' H1 Hz1 es' (Ex.refl _) fx S' r'⟩
    · exact q.elim
  · exact q.elim
/-- o.f = e, o a variable -/
def sFl (ft : Nm → List Nm) (i : Nat) (n : Nm) (fa : EF) : SF := fun ρ => (fa ρ).bindS fun y ρ1 => if y.b = true then .stuck else match ρ1[i]? with
  | some (some (m + 1, .ins C ns ds)) => if n ∈ ft C ∧ ns.length < 100 ∧ (m ≤ y.q ∨ immut y.d = true) then .nx (ρ1.set i (some (m + 1, .ins C (putNs n ns) (putDs n y.d ns ds)))) else .stuck
  | _ => .stuck
theorem fld_core {ft : Nm → List Nm} (F : FldOk K ft) {i : Nat} {n : Nm} {C : Nm} {ns : List Nm} {ds : List Pd.D} {m : Nat} {Fr : List Ent} {ρ1 : Vr} {es1 : List Ent} {w : V} {y : RV} (S : Slots σ ρ1 es1) (r : R K (⟨w, y.q, y.d⟩ :: (es1 ++ Fr)) Hz H) (e : ρ1[i]? = some (some (m + 1, .ins C ns ds)))
    (c : n ∈ ft C ∧ ns.length < 100 ∧ (m ≤ y.q ∨ immut y.d = true)) : ∃ a dx vs Hz', σ[i]? = some (some (.ref a)) ∧ H a = some (.ins (ca K C) dx ((ns.map Nm.str).zip vs)) ∧ Cls K (ca K C) ∧ NoAttr K (ca K C) n.str ∧ ((ns.map Nm.str).zip vs).length < 1000 ∧ Ex Hz Hz' ∧
      ∃ es', Slots σ (ρ1.set i (some (m + 1, .ins C (putNs n ns) (putDs n y.d ns ds)))) es' ∧ R K (es' ++ Fr) Hz' (upd H a (.ins (ca K C) dx (putF n.str w ((ns.map Nm.str).zip vs)))) := by
  obtain ⟨c1, c2, c3⟩ := c
  obtain ⟨v, es2, h1, h2, h3⟩ := S.take e
  obtain ⟨Hz', ez, r1⟩ := r.weaken m c3
  have r2 : R K (⟨v, m + 1, .ins C ns ds⟩ :: ⟨w, m, y.d⟩ :: (es2 ++ Fr)) Hz' H := (r1.perm ((mid h2).cons _)).perm (List.Perm.swap _ _ _)
  obtain ⟨A, hA⟩ := r2.head
  obtain ⟨a, dx, vs, B, rfl, _, ha, l, _⟩ := hA.ins_inv
  obtain ⟨k1, k2⟩ := F.cls C n c1
  have hi : i < ρ1.length := (List.getElem?_eq_some_iff.mp e).1
  obtain ⟨es3, S3, p3⟩ := h3.put (v := .ref a) (m := m + 1) (d := .ins C (putNs n ns) (putDs n y.d ns ds)) (by rw [List.getElem?_set_self hi]) h1
  rw [List.set_set] at S3
  refine ⟨a, dx, vs, Hz', h1, ha, k1, k2, ?_, ez, es3, S3, (R.putN (F.inj n) r2 ha l).perm (mid p3).symm⟩
  rw [List.length_zip, List.length_map]; omega
theorem ss_fld {ft : Nm → List Nm} (F : FldOk X.K ft) (i : Nat) (n : Nm) {x : Str} {p p' : Pos} (ha : SE X W s a fa) (hN : X.N[i]? = some x := by rfl) (hv : Vis X.env.scope x := by first | exact Or.inl rfl | exact Or.inr (Or.inl rfl) | exact Or.inr (Or.inr rfl)) (hd : (x == ("__debug__" : Str)) = false := by decide)
    (hcd : (x == ("__classdict__" : Str)) = false := by decide) (hs : swapsWith a (some (.Attribute (.Name x p) n.str p')) pos.line X.env = pure false := by rfl) : SS X W U (.Assign [.Attribute (.Name x p) n.str p'] a pos) (sFl ft i n fa) := by
  refine psImp (ps_fld (pv i hN hv hd hcd) ha hs) fun D σ H q => ?_
  refine oneS q fun w y ρ1 es1 Fr Hz1 H1 S o q => ?_
  split at q
  · exact q.elim
  · rename_i hb
    split at q
    · rename_i m C ns ds e
      split at q
      · rename_i c
        obtain ⟨a, dx, vs, Hz', h1, ha, k1, k2, k3, ez, es', S', r'⟩ := fld_core F S (o.own (by simpa using hb)) e c
        exact ⟨_, h1, a, _, dx, _, rfl, ha, k1, k2, k3, q σ _ Hz' es' ez (Fix.refl _ _) S' r'⟩
      · exact q.elim
    · exact q.elim
end
end Pd
end
section
/-! Pd: while, for, list comprehensions. -/
namespace Pd
open PySem L2
inductive RI where
  | ok (items : List D) (hold : RV) (ρ : Vr)
  | exc (C : Nm) (ns : List Nm) (xs : List D) (ρ : Vr)
  | stuck
abbrev IF := Vr → RI
/-- J walks the items, as long as the thing held lies there -/
def Walks (K : PySem.W.Frag) (J : It) (hv : V) (hold : RV) (items : List D) : Prop := ∀ (i : Nat) (es : List Ent) (Hz H : Hp), R K (⟨hv, hold.q, hold.d⟩ :: es) Hz H →
  (∀ d, items[i]? = some d → J.go i H ∧ ∀ x H', J.yld i H x H' → ∃ Hz', Ex Hz Hz' ∧ Ex H H' ∧ Rp K Hz' x d ∧ R K (⟨hv, hold.q, hold.d⟩ :: es) Hz' H') ∧ (items.length ≤ i → J.stop i H)
def RetI (K : PySem.W.Frag) (Fr : List Ent) (σ : L2.St) (Hz H : Hp) (s : Bool) (W : WX) (r : RI) (Q : It → Hp → Prop) : Prop := match r with
  | .ok items hold ρ' => ∀ J hv H' Hz' es', Ex Hz Hz' → (s = true → Ex H H') → Slots σ ρ' es' → R K (⟨hv, hold.q, hold.d⟩ :: (es' ++ Fr)) Hz' H' → Walks K J hv hold items → Q J H'
  | .exc C ns xs ρ' => ∀ dx H' Hz' es', Ex Hz Hz' → ExcAt K Hz' ns xs dx → Slots σ ρ' es' → R K (es' ++ Fr) Hz' H' → W (.ref (ca K C)) dx σ H'
  | .stuck => False
def tI (K : PySem.W.Frag) (W : WX) (s : Bool) (fi : IF) : TI := fun σ H Q => ∃ ρ es Fr Hz, Slots σ ρ es ∧ R K (es ++ Fr) Hz H ∧ RetI K Fr σ Hz H s W (fi ρ) Q
abbrev SI (X : Cx) (W : WX) (s : Bool) (tg iter : Expr) (fi : IF) : Prop := PI X tg iter (tI X.K W s fi)
theorem piImp {X : Cx} {tg e : Expr} {t t' : TI} (h : PI X tg e t) (i : ∀ σ H Q, t' σ H Q → t σ H Q) : PI X tg e t' := ⟨fun pins s σ H Q I q => h.run pins s σ H Q I (i σ H Q q)⟩
@[simp] def RE.bindI (r : RE) (f : RV → IF) : RI := match r with
  | .ok x ρ => f x ρ
  | .exc C ns xs ρ => .exc C ns xs ρ
  | .stuck => .stuck
@[simp] def RI.bindE (r : RI) (f : List D → RV → EF) : RE := match r with
  | .ok xs h ρ => f xs h ρ
  | .exc C ns xs ρ => .exc C ns xs ρ
  | .stuck => .stuck
@[simp] def RI.bindS (r : RI) (f : List D → RV → SF) : RS := match r with
  | .ok xs h ρ => f xs h ρ
  | .exc C ns xs ρ => .exc C ns xs ρ
  | .stuck => .stuck
section
variable {X : Cx} {W : WX} {U : List Nat} {s sa sb sc : Bool} {pos : Pos} {K : PySem.W.Frag} {fa fb fc : EF} {f g : SF} {σ σ' : L2.St} {H Hz Hz' : Hp} {Z : Ends} {a b c tg : Expr} {es : List Ent} {v : V} {x z : RV} {st : Stmt} {rest : List Stmt}
theorem oneI {k : RV → IF} {Qi : It → Hp → Prop} {Qk : V → Hp → Prop} (h : tI K W s (fun ρ => (fa ρ).bindI k) σ H Qi) (hs : s = true → sa = true)
    (hk : ∀ v x ρ1 es1 Fr Hz1 H1, Slots σ ρ1 es1 → RVok K Hz1 H1 v x (es1 ++ Fr) → RetI K Fr σ Hz1 H1 s W (k x ρ1) Qi → Qk v H1) : tE K W sa fa σ H Qk := by
  obtain ⟨ρ, es, Fr, Hz, S, r, q⟩ := h
  refine ⟨ρ, es, Fr, Hz, S, r, ?_⟩
  dsimp only at q
  cases e : fa ρ with
  | stuck => rw [e] at q; exact q
  | exc C ns xs ρ' => rw [e] at q; exact q
  | ok x ρ1 =>
    rw [e] at q
    refine fun v H1 Hz1 es1 ez k1 S1 o1 => hk v x ρ1 es1 Fr Hz1 H1 S1 o1 ?_
    dsimp only [RE.bindI] at q
    revert q
    generalize k x ρ1 = rr
    intro q
    cases rr with
    | stuck => exact q
    | exc C ns xs ρ' => exact fun dx H' Hz' es' ez' => q dx H' Hz' es' (ez.trans ez')
    | ok items hold ρ' => exact fun J hv H' Hz' es' ez' kk => q J hv H' Hz' es' (ez.trans ez') fun z => (k1 (hs z)).trans (kk z)
/-! ### what is walked -/
/-- a list, that no one changes meanwhile -/
def iL (fa : EF) : IF := fun ρ => (fa ρ).bindI fun x ρ1 => if x.b = true then .stuck else match x.d with
  | .lst ds => if x.q ≤ 1 then .ok ds x ρ1 else .stuck
  | .frl ds => .ok ds x ρ1
  | _ => .stuck
theorem walks_lst {a : Addr} {ds : List D} {x : RV} (e : x.d = .lst ds) (hq : x.q ≤ 1) : Walks K (Itl K a) (.ref a) x ds := by
  intro i es Hz H r
  have hv : View K Hz H (.ref a) x := r.head
  obtain ⟨a', vs, A, e1, h1, ow⟩ := hv.lst r.ex e
  cases e1
  refine ⟨fun d hd => ?_, fun hl => ⟨vs, .of h1, by rw [ow.length]; exact hl⟩⟩
  obtain ⟨u, hu, hr⟩ := (ow.one hq).get hd
  refine ⟨⟨vs, u, .of h1, hu⟩, fun y H' hy => ?_⟩
  obtain ⟨e2, hy⟩ := hy
  subst e2
  have e3 := hy vs (.of h1)
  rw [hu] at e3; cases e3
  exact ⟨Hz, Ex.refl _, Ex.refl _, hr, r⟩
theorem walks_frl {a : Addr} {ds : List D} {vs : List V} {x : RV} (e : x.d = .frl ds) : Walks K (Itl K a) (.ref a) x ds := by
  intro i es Hz H r
  have hv : View K Hz H (.ref a) x := r.head
  obtain ⟨a', vs, e1, h1, l⟩ := hv.frl e
  cases e1
  refine ⟨fun d hd => ?_, fun hl => ⟨vs, r.ex.sql h1, by rw [l.length]; exact hl⟩⟩
  obtain ⟨u, hu, hr⟩ := l.get hd
  refine ⟨⟨vs, u, r.ex.sql h1, hu⟩, fun y H' hy => ?_⟩
  obtain ⟨e2, hy⟩ := hy
  subst e2
  have e3 := hy vs (r.ex.sql h1)
  rw [hu] at e3; cases e3
  exact ⟨Hz, Ex.refl _, Ex.refl _, hr, r⟩
theorem si_list (ha : SE X W s a fa) : SI X W s tg a (iL fa) := by
  refine piImp (pi_list ha) fun σ H Q q => ?_
  refine oneI q id fun v x ρ1 es1 Fr Hz1 H1 S o q => ?_
  split at q
  · exact q.elim
  · rename_i hb
    have o' := o.own (by simpa using hb)
    split at q
    · rename_i ds e
      split at q
      · rename_i c
        obtain ⟨a, vs, A, rfl, h1, ow⟩ := o.view.lst o.rest.ex e
        exact ⟨a, rfl, ⟨vs, .of h1⟩, q _ _ H1 Hz1 es1 (Ex.refl _) (fun _ => Ex.refl _) S o' (walks_lst e c)⟩
      · exact q.elim
    · rename_i ds e
      obtain ⟨a, vs, rfl, h1, l⟩ := o.view.frl e
      exact ⟨a, rfl, ⟨vs, o.rest.ex.sql h1⟩, q _ _ H1 Hz1 es1 (Ex.refl _) (fun _ => Ex.refl _) S o' (walks_frl (vs := vs) e)⟩
    · exact q.elim
/-- a tuple -/
def iT (fa : EF) : IF := fun ρ => (fa ρ).bindI fun x ρ1 => match x.d with
  | .tup ds => .ok ds (pureV x.d) ρ1
  | _ => .stuck
theorem walks_tup {a : Addr} {ds : List D} {x : RV} (e : x.d = .tup ds) : Walks K (Itt K a) (.ref a) x ds := by
  intro i es Hz H r
  have hv : View K Hz H (.ref a) x := r.head
  obtain ⟨a', vs, e1, h1, l⟩ := hv.tup e
  cases e1
  have h2 := r.ex _ _ h1
  refine ⟨fun d hd => ?_, fun hl => ⟨vs, .of h2, by rw [l.length]; exact hl⟩⟩
  obtain ⟨u, hu, hr⟩ := l.get hd
  refine ⟨⟨vs, u, .of h2, hu⟩, fun y H' hy => ?_⟩
  obtain ⟨e2, hy⟩ := hy
  subst e2
  have e3 := hy vs (.of h2)
  rw [hu] at e3; cases e3
  exact ⟨Hz, Ex.refl _, Ex.refl _, hr, r⟩
theorem si_tup (ha : SE X W s a fa) : SI X W s tg a (iT fa) := by
  refine piImp (pi_tup ha) fun σ H Q q => ?_
  refine oneI q id fun v x ρ1 es1 Fr Hz1 H1 S o q => ?_
  split at q
  · rename_i ds e
    have rz := o.view.imm (by rw [e]; rfl)
    obtain ⟨a, vs, rfl, h1, l⟩ := o.view.tup e
    exact ⟨a, rfl, ⟨vs, .of (o.rest.ex _ _ h1)⟩, q _ (.ref a) H1 Hz1 es1 (Ex.refl _) (fun _ => Ex.refl _) S (o.rest.put (.inl rfl) rz) (walks_tup (x := pureV x.d) e)⟩
  · exact q.elim
/-- range -/
def rng (lo : Int) (n : Nat) : List D := (List.range n).map fun (i : Nat) => .int (lo + (i : Int))
theorem rng_get {lo : Int} {n i : Nat} {d : D} (h : (rng lo n)[i]? = some d) : i < n ∧ d = .int (lo + i) := by
  unfold rng at h
  rw [List.getElem?_map] at h
  obtain ⟨j, h1, h2⟩ := Option.map_eq_some_iff.mp h
  obtain ⟨h3, h4⟩ := List.getElem?_eq_some_iff.mp h1
  rw [List.length_range] at h3
  rw [List.getElem_range] at h4
  exact ⟨h3, by rw [← h2, ← h4]⟩
theorem walks_rng {lo : Int} {n : Nat} : Walks K (Itr lo n) .non (pureV .non) (rng lo n) := by
  intro i es Hz H r
  refine ⟨fun d hd => ?_, fun hl => ?_⟩
  · obtain ⟨h1, rfl⟩ := rng_get hd
    refine ⟨h1, fun y H' hy => ?_⟩
    obtain ⟨e1, e2⟩ := hy
    subst e1 e2
    exact ⟨Hz, Ex.refl _, Ex.refl _, .int _, r⟩
  · show n ≤ i
    unfold rng at hl
    rw [List.length_map, List.length_range] at hl
    exact hl
def RB (i : Int) : Prop := i.natAbs ≤ 1000000000000000000
instance (i : Int) : Decidable (RB i) := inferInstanceAs (Decidable (_ ≤ _))
def iR1 (fa : EF) : IF := fun ρ => (fa ρ).bindI fun x ρ1 => match x.d with
  | .int j => if RB j then .ok (rng 0 j.toNat) (pureV .non) ρ1 else .stuck
  | _ => .stuck
def iR2 (fa fb : EF) : IF := fun ρ => (fa ρ).bindI fun x ρ1 => (fb ρ1).bindI fun y ρ2 => match x.d, y.d with
  | .int i, .int j => if RB i ∧ RB j then .ok (rng i (j - i).toNat) (pureV .non) ρ2 else .stuck
  | _, _ => .stuck
theorem two62 : (2 : Int) ^ 62 = 4611686018427387904 := by decide
theorem si_range1 {p : Pos} (ha : SE X W s a fa) (hm : X.mg "range" = none) (hg : Gl X "range" := by rfl) (h1 : starEach [a] X.env = (false, eval a X.env) :: starEach [] X.env := by rfl) (hs : starEach [a] X.env = [(false, eval a X.env)] := by rfl) : SI X W s tg (.Call (.Name "range" p) [a] [] pos) (iR1 fa) := by
  refine piImp (pi_range1 hg hm (pa_cons ha pa_nil h1) hs) fun σ H Q q => ?_
  refine oneI q id fun v x ρ1 es1 Fr Hz1 H1 S o q => ?_
  split at q
  · rename_i j e
    split at q
    · rename_i c
      refine ⟨j, by rw [o.view.int e], by rw [two62]; unfold RB at c; omega, by rw [two62]; unfold RB at c; omega, ?_⟩
      exact q _ .non H1 Hz1 es1 (Ex.refl _) (fun _ => Ex.refl _) S (o.rest.put (.inl rfl) .non) walks_rng
    · exact q.elim
  · exact q.elim
theorem si_range2 {p : Pos} (ha : SE X W sa a fa) (hb : SE X W sb b fb) (hm : X.mg "range" = none) (hg : Gl X "range" := by rfl) (h1 : starEach [a, b] X.env = (false, eval a X.env) :: starEach [b] X.env := by rfl) (h2 : starEach [b] X.env = (false, eval b X.env) :: starEach [] X.env := by rfl)
    (hs1 : starEach [a, b] X.env = [(false, eval a X.env), (false, eval b X.env)] := by rfl) (hs2 : starEach [b] X.env = [(false, eval b X.env)] := by rfl) (hs : s = true → sa = true ∧ sb = true := by first | exact fun _ => ⟨rfl, rfl⟩ | (intro z; cases z)) : SI X W s tg (.Call (.Name "range" p) [a, b] [] pos) (iR2 fa fb) := by
  refine piImp (pi_range2 hg hm (pa_cons ha (pa_cons hb pa_nil h2) h1) hs1 hs2) fun σ H Q q => ?_
  refine oneI q (fun z => (hs z).1) fun v x ρ1 es1 Fr Hz1 H1 S o q => ?_
  have q' : tI X.K W s (fun ρ => (fb ρ).bindI fun y ρ2 => match x.d, y.d with
      | .int i, .int j => if RB i ∧ RB j then .ok (rng i (j - i).toNat) (pureV .non) ρ2 else .stuck
      | _, _ => .stuck) σ H1 Q := ⟨ρ1, es1, Fr, Hz1, S, o.rest, q⟩
  refine oneI q' (fun z => (hs z).2) fun w y ρ2 es2 Fr2 Hz2 H2 S2 o2 q2 => ?_
  split at q2
  · rename_i i j e1 e2
    split at q2
    · rename_i c
      refine ⟨i, j, by rw [o.view.int e1, o2.view.int e2], ?_, ?_⟩
      · rw [two62]; unfold RB at c; omega
      · exact q2 _ .non H2 Hz2 es2 (Ex.refl _) (fun _ => Ex.refl _) S2 (o2.rest.put (.inl rfl) .non) walks_rng
    · exact q2.elim
  · exact q2.elim

/-! ### targets -/
inductive Tg where
  | nm (i : Nat)
  | tp (is : List Nat)
def Tg.all : Tg → List Nat
  | .nm i => [i]
  | .tp is => is
def bindT : Tg → D → Vr → Option Vr
  | .nm i, d, ρ => if i < ρ.length then some (ρ.set i (some (0, d))) else none
  | .tp is, .tup ds, ρ => setAll is ds ρ
  | .tp _, _, _ => none
def gT (K : PySem.W.Frag) : Tg → TG
  | .nm i => gName i
  | .tp is => gTup K is.length (gNames is)
theorem bind_core {t : Tg} {d : D} {ρ ρ2 : Vr} {es Fr : List Ent} {Q : L2.St → Hp → Prop} (hu : ∀ i ∈ t.all, i ∉ U) (hd : Rp K Hz v d) (e : bindT t d ρ = some ρ2) (S : Slots σ ρ es) (r : R K (es ++ Fr) Hz H)
    (h : ∀ σ' es', Fix U σ σ' → Slots σ' ρ2 es' → R K (es' ++ Fr) Hz H → Q σ' H) : gT K t v σ H Q := by
  cases t with
  | nm i =>
    have e' : (if i < ρ.length then some (ρ.set i (some (0, d))) else none) = some ρ2 := e
    split at e'
    · rename_i hi
      cases e'
      obtain ⟨es', S', r'⟩ := store_core (x := pureV d) S (RVok.pure hd r) rfl hi
      exact h _ es' (Fix.set (hu i (by simp [Tg.all]))) S' r'
    · cases e'
  | tp is =>
    cases hd with
    | tup h1 l => exact ⟨_, _, rfl, .of (r.ex _ _ h1), by rw [l.length, setAll_len (show setAll is _ ρ = some ρ2 from e)], names_core hu l e S r h⟩
    | _ => cases e

/-! ### for -/
def forL (t : Tg) (f : SF) : List D → SF
  | [], ρ => .nx ρ
  | d :: ds, ρ => match bindT t d ρ with
    | some ρ1 => match f ρ1 with
      | .nx ρ2 => forL t f ds ρ2
      | .ct ρ2 => forL t f ds ρ2
      | .bk ρ2 => .nx ρ2
      | r => r
    | none => .stuck
def sFor (t : Tg) (fi : IF) (f : SF) : SF := fun ρ => (fi ρ).bindS fun items _ ρ1 => forL t f items ρ1
theorem R.swap3 {e : Ent} {es Fr : List Ent} (r : R K (e :: (es ++ Fr)) Hz H) : R K (es ++ (e :: Fr)) Hz H := r.perm List.perm_middle.symm
theorem R.swap4 {e : Ent} {es Fr : List Ent} (r : R K (es ++ (e :: Fr)) Hz H) : R K (e :: (es ++ Fr)) Hz H := r.perm List.perm_middle
theorem ss_for {body : List Stmt} {t : Tg} {fi : IF} {iter : Expr} (hp : PassesOwn (model X.prog X.w) X.A X.env X.xe) (hc : X.calm = true) (hi : SI X W s tg iter fi) (hg : PG X tg (gT X.K t)) (hb : SB X W U body f) (hu : ∀ i ∈ t.all, i ∉ U := by decide)
    (hs : ∀ x, foldedSetIterable iter X.env x = pure x := by intro _; rfl) : SS X W U (.For tg iter body [] pos) (sFor t fi f) := by
  refine psImp (ps_for hp hc hi hg hb hs) fun Z σ H q => ?_
  obtain ⟨ρ, es, Fr, Hz, S, r, q⟩ := q
  refine ⟨ρ, es, Fr, Hz, S, r, ?_⟩
  unfold sFor at q
  cases e : fi ρ with
  | stuck => rw [e] at q; exact q
  | exc C ns xs ρ' =>
    rw [e] at q
    exact fun dx H' Hz' es' ez x S r => q dx σ H' Hz' es' ez (Fix.refl _ _) x S r
  | ok items hold ρ1 =>
    rw [e] at q
    dsimp only [RI.bindS] at q
    intro J hv H1 Hz1 es1 ez k1 S1 r1 wk
    refine ⟨fun i m τ H' => m = items.length - i ∧ i ≤ items.length ∧ ∃ ρi esi Hzi, Fix U σ τ ∧ Slots τ ρi esi ∧ R X.K (⟨hv, hold.q, hold.d⟩ :: (esi ++ Fr)) Hzi H' ∧ RetS X.K Fr τ U Hzi W (forL t f (items.drop i) ρi) Z,
      ⟨items.length, by simp, Nat.zero_le _, ρ1, es1, Hz1, Fix.refl _ _, S1, r1, q.base ez (Fix.refl _ _)⟩, ?_⟩
    rintro i m τ H' ⟨rfl, hi, ρi, esi, Hzi, fx, Si, ri, qi⟩
    obtain ⟨w1, w2⟩ := wk i _ Hzi H' ri
    by_cases hlt : i < items.length
    · obtain ⟨d, hd⟩ : ∃ d, items[i]? = some d := ⟨_, List.getElem?_eq_getElem hlt⟩
      obtain ⟨go, yl⟩ := w1 d hd
      have hdrop : items.drop i = d :: items.drop (i + 1) := by
        have := List.getElem?_eq_some_iff.mp hd
        obtain ⟨h1, h2⟩ := this
        rw [List.drop_eq_getElem_cons h1, h2]
      rw [hdrop] at qi
      unfold forL at qi
      refine .inr ⟨go, fun τ' H'' => ∃ ρi esi Hzi, Fix U σ τ' ∧ Slots τ' ρi esi ∧ R X.K (⟨hv, hold.q, hold.d⟩ :: (esi ++ Fr)) Hzi H'' ∧ RetS X.K Fr τ' U Hzi W (forL t f (items.drop (i + 1)) ρi) Z,
        fun τ' H'' h => ⟨items.length - (i + 1), by omega, rfl, hlt, h⟩, fun x H2 hy => ?_⟩
      obtain ⟨Hz2, e1, e2, hx, r2⟩ := yl x H2 hy
      have qi' := qi.base e1 (Fix.refl _ _)
      cases eb : bindT t d ρi with
      | none => rw [eb] at qi'; exact qi'.elim
      | some ρ2 =>
        rw [eb] at qi'
        dsimp only at qi'
        refine bind_core (K := X.K) (Fr := ⟨hv, hold.q, hold.d⟩ :: Fr) hu hx eb Si r2.swap3 fun τ2 es2 fx2 S2 r3 => ?_
        refine ⟨ρ2, es2, ⟨hv, hold.q, hold.d⟩ :: Fr, Hz2, S2, r3, ?_⟩
        have q3 := qi'.base (Ex.refl _) fx2
        have fxx := fx.trans fx2
        cases ef : f ρ2 with
        | stuck => rw [ef] at q3; exact q3
        | nx ρ3 =>
          rw [ef] at q3
          exact fun τ3 H3 Hz3 es3 e3 fx3 S3 r4 => ⟨ρ3, es3, Hz3, fxx.trans fx3, S3, r4.swap4, q3.base e3 fx3⟩
        | ct ρ3 =>
          rw [ef] at q3
          exact fun τ3 H3 Hz3 es3 e3 fx3 S3 r4 => ⟨ρ3, es3, Hz3, fxx.trans fx3, S3, r4.swap4, q3.base e3 fx3⟩
        | bk ρ3 =>
          rw [ef] at q3
          exact fun τ3 H3 Hz3 es3 e3 fx3 S3 r4 => q3 τ3 H3 Hz3 es3 e3 fx3 S3 r4.swap4.tail
        | rt y ρ3 =>
          rw [ef] at q3
          exact ⟨q3.1, fun v τ3 H3 Hz3 es3 e3 fx3 S3 r4 => q3.2 v τ3 H3 Hz3 es3 e3 fx3 S3 ((r4.perm (List.perm_middle.cons _)).perm (List.Perm.swap _ _ _)).tail⟩
        | exc C ns xs ρ3 =>
          rw [ef] at q3
          exact fun dx τ3 H3 Hz3 es3 e3 fx3 x3 S3 r4 => q3 dx τ3 H3 Hz3 es3 e3 fx3 x3 S3 r4.swap4.tail
    · have hl : items.length ≤ i := by omega
      rw [List.drop_eq_nil_of_le hl] at qi
      exact .inl ⟨w2 hl, qi τ H' Hzi esi (Ex.refl _) (Fix.refl _ _) Si ri.tail⟩

/-! ### while -/
def whN (fc : EF) (f : SF) : Nat → SF
  | 0, _ => .stuck
  | n + 1, ρ => (fc ρ).bindS fun x ρ1 => match x.d with
    | .bl true => match f ρ1 with
      | .nx ρ2 => whN fc f n ρ2
      | .ct ρ2 => whN fc f n ρ2
      | .bk ρ2 => .nx ρ2
      | r => r
    | .bl false => .nx ρ1
    | _ => .stuck
def RS.isStuck : RS → Bool
  | .stuck => true
  | _ => false
theorem whN_mono {fc : EF} {f : SF} : ∀ {n : Nat} {ρ : Vr}, (whN fc f n ρ).isStuck = false → ∀ k, whN fc f (n + k) ρ = whN fc f n ρ
  | 0, ρ, h, _ => by cases h
  | n + 1, ρ, h, k => by
    rw [show n + 1 + k = (n + k) + 1 by omega]
    unfold whN at h ⊢
    cases e : fc ρ with
    | stuck => rfl
    | exc => rfl
    | ok x ρ1 =>
      rw [e] at h
      dsimp only [RE.bindS] at h ⊢
      split
      · rename_i e1
        rw [e1] at h
        dsimp only at h
        cases e2 : f ρ1 with
        | nx ρ2 => rw [e2] at h; exact whN_mono h k
        | ct ρ2 => rw [e2] at h; exact whN_mono h k
        | _ => rfl
      · rfl
      · rfl
open Classical in
noncomputable def sWh (fc : EF) (f : SF) : SF := fun ρ => if h : ∃ n, (whN fc f n ρ).isStuck = false then whN fc f (Classical.choose h) ρ else .stuck
theorem sWh_of {fc : EF} {f : SF} {ρ : Vr} (n : Nat) (h : (whN fc f n ρ).isStuck = false) : sWh fc f ρ = whN fc f n ρ := by
  have ex : ∃ n, (whN fc f n ρ).isStuck = false := ⟨n, h⟩
  unfold sWh
  rw [dif_pos ex]
  have h2 := Classical.choose_spec ex
  generalize Classical.choose ex = m at h2
  by_cases c : n ≤ m
  · obtain ⟨k, rfl⟩ := Nat.exists_eq_add_of_le c
    exact whN_mono h k
  · obtain ⟨k, rfl⟩ := Nat.exists_eq_add_of_le (Nat.le_of_not_le c)
    exact (whN_mono h2 k).symm
theorem sWh_n {fc : EF} {f : SF} {ρ : Vr} (h : (sWh fc f ρ).isStuck = false) : ∃ n, (whN fc f n ρ).isStuck = false ∧ sWh fc f ρ = whN fc f n ρ := by
  by_cases ex : ∃ n, (whN fc f n ρ).isStuck = false
  · obtain ⟨n, hn⟩ := ex
    exact ⟨n, hn, sWh_of n hn⟩
  · unfold sWh at h
    rw [dif_neg ex] at h
    cases h
/-- the loop, turn by turn -/
theorem sWh_eq (fc : EF) (f : SF) (ρ : Vr) : sWh fc f ρ = (fc ρ).bindS fun x ρ1 => match x.d with
    | .bl true => match f ρ1 with
      | .nx ρ2 => sWh fc f ρ2
      | .ct ρ2 => sWh fc f ρ2
      | .bk ρ2 => .nx ρ2
      | r => r
    | .bl false => .nx ρ1
    | _ => .stuck := by
  have up : ∀ ρ2, (match sWh fc f ρ2 with | .stuck => True | r => ∃ n, whN fc f n ρ2 = r) := fun ρ2 => by
    cases e : sWh fc f ρ2 with
    | stuck => trivial
    | _ =>
      obtain ⟨n, hn, en⟩ := sWh_n (fc := fc) (f := f) (ρ := ρ2) (by rw [e]; rfl)
      exact ⟨n, by rw [← en, e]⟩
  by_cases ex : ∃ n, (whN fc f n ρ).isStuck = false
  · obtain ⟨n, hn⟩ := ex
    rw [sWh_of n hn]
    cases n with
    | zero => cases hn
    | succ n =>
      unfold whN at hn ⊢
      cases e : fc ρ with
      | stuck => rfl
      | exc => rfl
      | ok x ρ1 =>
        rw [e] at hn
        dsimp only [RE.bindS] at hn ⊢
        split
        · rename_i e1
          rw [e1] at hn
          dsimp only at hn
          cases e2 : f ρ1 with
          | nx ρ2 => rw [e2] at hn; exact (sWh_of n hn).symm
          | ct ρ2 => rw [e2] at hn; exact (sWh_of n hn).symm
          | _ => rfl
        · rfl
        · rfl
  · have hs : sWh fc f ρ = .stuck := by unfold sWh; rw [dif_neg ex]
    rw [hs]
    cases e : fc ρ with
    | stuck => rfl
    | exc C ns xs ρ' => exact absurd ⟨1, by unfold whN; rw [e]; rfl⟩ ex
    | ok x ρ1 =>
      dsimp only [RE.bindS]
      split
      · rename_i e1
        cases e2 : f ρ1 with
        | nx ρ2 =>
          dsimp only
          cases e3 : sWh fc f ρ2 with
          | stuck => rfl
          | _ =>
            obtain ⟨n, hn, en⟩ := sWh_n (fc := fc) (f := f) (ρ := ρ2) (by rw [e3]; rfl)
            exact absurd ⟨n + 1, by unfold whN; rw [e]; dsimp only [RE.bindS]; rw [e1]; dsimp only; rw [e2]; exact hn⟩ ex
        | ct ρ2 =>
          dsimp only
          cases e3 : sWh fc f ρ2 with
          | stuck => rfl
          | _ =>
            obtain ⟨n, hn, en⟩ := sWh_n (fc := fc) (f := f) (ρ := ρ2) (by rw [e3]; rfl)
            exact absurd ⟨n + 1, by unfold whN; rw [e]; dsimp only [RE.bindS]; rw [e1]; dsimp only; rw [e2]; exact hn⟩ ex
        | stuck => rfl
        | bk ρ2 => exact absurd ⟨1, by unfold whN; rw [e]; dsimp only [RE.bindS]; rw [e1]; dsimp only; rw [e2]; rfl⟩ ex
        | rt y ρ2 => exact absurd ⟨1, by unfold whN; rw [e]; dsimp only [RE.bindS]; rw [e1]; dsimp only; rw [e2]; rfl⟩ ex
        | exc C ns xs ρ2 => exact absurd ⟨1, by unfold whN; rw [e]; dsimp only [RE.bindS]; rw [e1]; dsimp only; rw [e2]; rfl⟩ ex
      · rename_i e1
        exact absurd ⟨1, by unfold whN; rw [e]; dsimp only [RE.bindS]; rw [e1]; rfl⟩ ex
      · rfl
theorem ss_while {body : List Stmt} (hp : PassesOwn (model X.prog X.w) X.A X.env X.xe) (hc : ST X W s c fc) (hb : SB X W U body f) : SS X W U (.While c body [] pos) (sWh fc f) := by
  refine psImp (ps_while hp hc hb) fun Z σ H q => ?_
  obtain ⟨ρ, es, Fr, Hz, S, r, q⟩ := q
  have hn : (sWh fc f ρ).isStuck = false := by
    cases e : sWh fc f ρ with
    | stuck => rw [e] at q; exact q.elim
    | _ => rfl
  obtain ⟨n, hn, en⟩ := sWh_n hn
  rw [en] at q
  refine ⟨fun m τ H' => ∃ ρi esi Hzi, Fix U σ τ ∧ Slots τ ρi esi ∧ R X.K (esi ++ Fr) Hzi H' ∧ RetS X.K Fr τ U Hzi W (whN fc f m ρi) Z, ⟨n, ρ, es, Hz, Fix.refl _ _, S, r, q⟩, ?_⟩
  rintro m τ H' ⟨ρi, esi, Hzi, fx, Si, ri, qi⟩
  cases m with
  | zero => exact qi.elim
  | succ m =>
    unfold whN at qi
    refine ⟨ρi, esi, Fr, Hzi, Si, ri, ?_⟩
    cases e : fc ρi with
    | stuck => rw [e] at qi; exact qi
    | exc C ns xs ρ' =>
      rw [e] at qi
      exact fun dx H2 Hz2 es2 ez x S r => qi dx τ H2 Hz2 es2 ez (Fix.refl _ _) x S r
    | ok x ρ1 =>
      rw [e] at qi
      dsimp only [RE.bindS] at qi
      intro v H1 Hz1 es1 ez k1 S1 o1
      have q1 := qi.base ez (Fix.refl _ _)
      split at q1
      · rename_i e1
        refine ⟨true, o1.bl e1, iteT ?_⟩
        refine ⟨fun τ' H'' => ∃ ρi esi Hzi, Fix U σ τ' ∧ Slots τ' ρi esi ∧ R X.K (esi ++ Fr) Hzi H'' ∧ RetS X.K Fr τ' U Hzi W (whN fc f m ρi) Z, fun τ' H'' h => ⟨m, Nat.lt_succ_self _, h⟩, ρ1, es1, Fr, Hz1, S1, o1.rest, ?_⟩
        cases ef : f ρ1 with
        | stuck => rw [ef] at q1; exact q1
        | nx ρ3 => rw [ef] at q1; exact fun τ3 H3 Hz3 es3 e3 fx3 S3 r4 => ⟨ρ3, es3, Hz3, fx.trans fx3, S3, r4, q1.base e3 fx3⟩
        | ct ρ3 => rw [ef] at q1; exact fun τ3 H3 Hz3 es3 e3 fx3 S3 r4 => ⟨ρ3, es3, Hz3, fx.trans fx3, S3, r4, q1.base e3 fx3⟩
        | bk ρ3 => rw [ef] at q1; exact q1
        | rt y ρ3 => rw [ef] at q1; exact q1
        | exc C ns xs ρ3 => rw [ef] at q1; exact q1
      · rename_i e1
        refine ⟨false, o1.bl e1, iteF ?_⟩
        exact q1 τ H1 Hz1 es1 (Ex.refl _) (Fix.refl _ _) S1 o1.rest
      · exact q1.elim
end
end Pd
end
section
/-! Pd: list comprehensions. -/
namespace Pd
open PySem L2
abbrev W0 : WX := fun _ _ _ _ => False
def wipeV (ρ : Vr) : List Nat → Vr
  | [] => ρ
  | v :: vs => (wipeV ρ vs).set v none
section
variable {X : Cx} {W : WX} {U : List Nat} {s sa sb sc : Bool} {pos : Pos} {K : PySem.W.Frag} {fa fb fc : EF} {f g : SF} {σ σ' : L2.St} {H Hz Hz' : Hp} {Z : Ends} {a b c tg : Expr} {es : List Ent} {v : V} {x z : RV} {st : Stmt} {rest : List Stmt}
theorem Slots.wipe : ∀ {vs : List Nat} {σ : L2.St} {ρ : Vr} {es : List Ent}, Slots σ ρ es → ∃ es' dr, Slots (L2.wipe σ vs) (wipeV ρ vs) es' ∧ es.Perm (dr ++ es')
  | [], _, _, es, S => ⟨es, [], S, List.Perm.refl _⟩
  | v :: vs, _, _, _, S => by
    obtain ⟨es1, d1, S1, p1⟩ := Slots.wipe (vs := vs) S
    obtain ⟨es2, d2, S2, p2⟩ := S1.drop (x := none) (i := v)
    exact ⟨es2, d1 ++ d2, S2, by rw [List.append_assoc]; exact p1.trans (p2.append_left _)⟩
theorem Slots.unset {o : Option V} : ∀ {σ : L2.St} {ρ : Vr} {es : List Ent} {i : Nat}, Slots (σ.set i o) ρ es → ρ[i]? = some none ∨ ρ.length ≤ i → Slots σ ρ es := by
  intro σ
  induction σ with
  | nil => intro ρ es i S _; simpa using S
  | cons x σ ih =>
    intro ρ es i S h
    cases i with
    | zero =>
      rw [List.set_cons_zero] at S
      cases S with
      | no S => exact .no S
      | so S => simp at h
    | succ i =>
      rw [List.set_cons_succ] at S
      cases S with
      | no S => exact .no (ih S (by simpa using h))
      | so S => exact .so (ih S (by simpa using h))
theorem wipeV_none {ρ : Vr} {i : Nat} : ∀ {vs : List Nat}, i ∈ vs → (wipeV ρ vs)[i]? = some none ∨ (wipeV ρ vs).length ≤ i
  | v :: vs, h => by
    unfold wipeV
    by_cases e : v = i
    · subst e
      by_cases c : v < (wipeV ρ vs).length
      · exact .inl (List.getElem?_set_self c)
      · exact .inr (by rw [List.length_set]; omega)
    · rw [List.getElem?_set_ne e, List.length_set]
      exact wipeV_none ((List.mem_cons.mp h).elim (fun q => absurd q.symm e) id)
theorem Slots.unwipe {ρ : Vr} : ∀ {vs : List Nat} {σ : L2.St} {es : List Ent}, (∀ i ∈ vs, ρ[i]? = some none ∨ ρ.length ≤ i) → Slots (L2.wipe σ vs) ρ es → Slots σ ρ es
  | [], _, _, _, S => S
  | v :: vs, _, _, h, S => Slots.unwipe (vs := vs) (fun i hi => h i (List.mem_cons_of_mem _ hi)) (Slots.unset S (h v List.mem_cons_self))
theorem wipe_set {i : Nat} {o : Option V} : ∀ {vs : List Nat} {σ : L2.St}, i ∈ vs → L2.wipe (σ.set i o) vs = L2.wipe σ vs
  | v :: vs, σ, h => by
    show (L2.wipe (σ.set i o) vs).set v none = (L2.wipe σ vs).set v none
    by_cases hi : i ∈ vs
    · rw [wipe_set hi]
    · have e : i = v := (List.mem_cons.mp h).elim id fun q => absurd q hi
      subst e
      have : ∀ (ws : List Nat) (τ : L2.St), i ∉ ws → L2.wipe (τ.set i o) ws = (L2.wipe τ ws).set i o := by
        intro ws
        induction ws with
        | nil => intro τ _; rfl
        | cons w ws ih =>
          intro τ hn
          show (L2.wipe (τ.set i o) ws).set w none = ((L2.wipe τ ws).set w none).set i o
          rw [ih τ fun q => hn (List.mem_cons_of_mem _ q), List.set_comm]
          exact fun q => hn (q ▸ List.mem_cons_self)
      rw [this vs σ hi, List.set_set]
theorem wipe_wipe (σ : L2.St) : ∀ (vs ws : List Nat), (∀ i ∈ ws, i ∈ vs) → L2.wipe (L2.wipe σ ws) vs = L2.wipe σ vs
  | vs, [], _ => rfl
  | vs, w :: ws, h => by
    show L2.wipe ((L2.wipe σ ws).set w none) vs = _
    rw [wipe_set (h w List.mem_cons_self), wipe_wipe σ vs ws fun i hi => h i (List.mem_cons_of_mem _ hi)]
/-- a target's slots are the block's own: they are forgotten again -/
theorem names_wipe {vs : List Nat} : ∀ {is : List Nat} {ws : List V} {σ : L2.St} {H : Hp} {Q : L2.St → Hp → Prop}, (∀ i ∈ is, i ∈ vs) → gNames is ws σ H Q → gNames is ws σ H fun σ' H' => L2.wipe σ' vs = L2.wipe σ vs ∧ Q σ' H'
  | [], ws, σ, H, Q, _, h => ⟨h.1, rfl, h.2⟩
  | i :: is, ws, σ, H, Q, hv, h => by
    obtain ⟨v, r, e, h⟩ := h
    refine ⟨v, r, e, ?_⟩
    have h2 := names_wipe (σ := σ.set i (some v)) (fun j hj => hv j (List.mem_cons_of_mem _ hj)) h
    have e2 : L2.wipe (σ.set i (some v)) vs = L2.wipe σ vs := wipe_set (hv i List.mem_cons_self)
    rw [e2] at h2
    exact h2
theorem gT_wipe {vs : List Nat} {t : Tg} {w : V} {Q : L2.St → Hp → Prop} (hv : ∀ i ∈ t.all, i ∈ vs) (h : gT K t w σ H Q) : gT K t w σ H fun σ' H' => L2.wipe σ' vs = L2.wipe σ vs ∧ Q σ' H' := by
  cases t with
  | nm i => exact ⟨wipe_set (hv i (by simp [Tg.all])), h⟩
  | tp is =>
    obtain ⟨a, xs, e1, e2, e3, h⟩ := h
    exact ⟨a, xs, e1, e2, e3, names_wipe hv h⟩
def compL (vs : List Nat) (t : Tg) (ft fe : EF) : List D → List D → EF
  | [], acc, ρ => .ok ⟨1, false, .lst acc⟩ ρ
  | d :: ds, acc, ρ => match bindT t d ρ with
    | some ρ1 => match ft ρ1 with
      | .ok ⟨_, _, .bl true⟩ ρ2 => match fe ρ2 with
        | .ok y ρ3 => if y.b = false ∧ acc.length < BIG then compL vs t ft fe ds (acc ++ [y.d]) (wipeV ρ3 vs) else .stuck
        | _ => .stuck
      | .ok ⟨_, _, .bl false⟩ ρ2 => compL vs t ft fe ds acc (wipeV ρ2 vs)
      | _ => .stuck
    | none => .stuck
/-- vs: the block's own slots -/
def eLc (vs : List Nat) (t : Tg) (fi : IF) (ft fe : EF) : EF := fun ρ => (fi ρ).bindE fun items _ ρ1 => compL vs t ft fe items [] (wipeV ρ1 vs)
theorem ExN.new {p : Addr} {o : HO} {H1 : Hp} (h : Ex H H1) (hp : H p = none) : Ex H (upd H1 p o) := h.mut hp
theorem lc_core {vs : List Nat} {t : Tg} {fi : IF} {ft fe : EF} {Q : VK} (hv : ∀ i ∈ t.all, i ∈ vs) (hs : s = true → sa = true ∧ sb = true ∧ sc = true) (h : tE K W s (eLc vs t fi ft fe) σ H Q) :
    tLc (tI K W sa fi) (gT K t) (tT K W0 sb ft) (tE K W0 sc fe) vs σ H Q := by
  obtain ⟨ρ, es, Fr, Hz, S, r, q⟩ := h
  refine ⟨ρ, es, Fr, Hz, S, r, ?_⟩
  unfold eLc at q
  cases e : fi ρ with
  | stuck => rw [e] at q; exact q
  | exc C ns xs ρ' => rw [e] at q; exact q
  | ok items hold ρ1 =>
    rw [e] at q
    dsimp only [RI.bindE] at q
    intro J hv2 H1 Hz1 es1 ez k1 S1 r1 wk L hL
    have q1 := q.base ez (s' := s) (H1 := H1) fun z => ⟨k1 (hs z).1, z⟩
    obtain ⟨es2, dr, S2, p2⟩ := S1.wipe (vs := vs)
    -- the new list, owned
    have r2 : R K (⟨.ref L, 1, .lst []⟩ :: ⟨hv2, hold.q, hold.d⟩ :: (es2 ++ Fr)) Hz1 (upd H1 L (.lst [])) := by
      have r3 := r1.perm ((p2.append_right Fr).cons ⟨hv2, hold.q, hold.d⟩)
      rw [List.append_assoc] at r3
      have r4 : R K (⟨hv2, hold.q, hold.d⟩ :: (es2 ++ Fr)) Hz1 H1 := (r3.perm (List.perm_middle (l₁ := dr)).symm).right
      exact (new_lst r4 hL .nil).own rfl
    have q2 : ∃ ρi esi Hzi acc, Ex Hz1 Hzi ∧ (s = true → Ex H1 (upd H1 L (.lst []))) ∧ Slots (L2.wipe σ vs) ρi esi ∧ (∀ i ∈ vs, ρi[i]? = some none ∨ ρi.length ≤ i) ∧ R K (⟨.ref L, 1, .lst acc⟩ :: ⟨hv2, hold.q, hold.d⟩ :: (esi ++ Fr)) Hzi (upd H1 L (.lst [])) ∧ RetE K Fr σ Hz1 H1 s W (compL vs t ft fe (items.drop 0) acc ρi) Q :=
      ⟨_, es2, Hz1, [], Ex.refl _, fun _ => Ex.new hL, S2, fun i hi => wipeV_none hi, r2, q1⟩
    refine ⟨fun i m H' => m = items.length - i ∧ i ≤ items.length ∧ ∃ ρi esi Hzi acc, Ex Hz1 Hzi ∧ (s = true → Ex H1 H') ∧ Slots (L2.wipe σ vs) ρi esi ∧ (∀ i ∈ vs, ρi[i]? = some none ∨ ρi.length ≤ i) ∧ R K (⟨.ref L, 1, .lst acc⟩ :: ⟨hv2, hold.q, hold.d⟩ :: (esi ++ Fr)) Hzi H' ∧ RetE K Fr σ Hz1 H1 s W (compL vs t ft fe (items.drop i) acc ρi) Q,
      ⟨items.length, by simp, Nat.zero_le _, q2⟩, ?_⟩
    rintro i m H' ⟨rfl, hi, ρi, esi, Hzi, acc, ezi, kk, Si, wi, ri, qi⟩
    obtain ⟨w1, w2⟩ := wk i _ Hzi H' (ri.perm (List.Perm.swap _ _ _))
    by_cases hlt : i < items.length
    · obtain ⟨d, hd⟩ : ∃ d, items[i]? = some d := ⟨_, List.getElem?_eq_getElem hlt⟩
      obtain ⟨go, yl⟩ := w1 d hd
      have hdrop : items.drop i = d :: items.drop (i + 1) := by
        obtain ⟨h1, h2⟩ := List.getElem?_eq_some_iff.mp hd
        rw [List.drop_eq_getElem_cons h1, h2]
      rw [hdrop] at qi
      unfold compL at qi
      refine .inr ⟨go, fun H'' => ∃ ρi esi Hzi acc, Ex Hz1 Hzi ∧ (s = true → Ex H1 H'') ∧ Slots (L2.wipe σ vs) ρi esi ∧ (∀ i ∈ vs, ρi[i]? = some none ∨ ρi.length ≤ i) ∧ R K (⟨.ref L, 1, .lst acc⟩ :: ⟨hv2, hold.q, hold.d⟩ :: (esi ++ Fr)) Hzi H'' ∧ RetE K Fr σ Hz1 H1 s W (compL vs t ft fe (items.drop (i + 1)) acc ρi) Q,
        fun H'' h => ⟨items.length - (i + 1), by omega, rfl, hlt, h⟩, fun x H2 hy => ?_⟩
      obtain ⟨Hz2, e1, e2, hx, r3⟩ := yl x H2 hy
      have r4 := r3.perm (List.Perm.swap _ _ _)
      cases eb : bindT t d ρi with
      | none => rw [eb] at qi; exact qi.elim
      | some ρ2 =>
        rw [eb] at qi
        dsimp only at qi
        -- frames: the list, the thing walked
        have fr : R K (esi ++ (⟨.ref L, 1, .lst acc⟩ :: ⟨hv2, hold.q, hold.d⟩ :: Fr)) Hz2 H2 := by
          refine r4.perm ?_
          have p1 : (esi ++ (⟨hv2, hold.q, hold.d⟩ :: Fr)).Perm (⟨hv2, hold.q, hold.d⟩ :: (esi ++ Fr)) := List.perm_middle
          exact ((List.perm_middle (l₁ := esi) (a := (⟨.ref L, 1, .lst acc⟩ : Ent))).trans (p1.cons _)).symm
        have fin : gT K t x (L2.wipe σ vs) H2 fun σ2 H3 => tT K W0 sb ft σ2 H3 fun b H4 => if b = true then tE K W0 sc fe σ2 H4 fun y H5 => ∃ acc', H5 L = some (.lst acc') ∧ acc'.length < sizeLine ∧ (∃ ρi esi Hzi acc, Ex Hz1 Hzi ∧ (s = true → Ex H1 (upd H5 L (.lst (acc' ++ [y])))) ∧ Slots (L2.wipe σ2 vs) ρi esi ∧ (∀ i ∈ vs, ρi[i]? = some none ∨ ρi.length ≤ i) ∧ R K (⟨.ref L, 1, .lst acc⟩ :: ⟨hv2, hold.q, hold.d⟩ :: (esi ++ Fr)) Hzi (upd H5 L (.lst (acc' ++ [y]))) ∧ RetE K Fr σ Hz1 H1 s W (compL vs t ft fe (items.drop (i + 1)) acc ρi) Q)
              else (∃ ρi esi Hzi acc, Ex Hz1 Hzi ∧ (s = true → Ex H1 H4) ∧ Slots (L2.wipe σ2 vs) ρi esi ∧ (∀ i ∈ vs, ρi[i]? = some none ∨ ρi.length ≤ i) ∧ R K (⟨.ref L, 1, .lst acc⟩ :: ⟨hv2, hold.q, hold.d⟩ :: (esi ++ Fr)) Hzi H4 ∧ RetE K Fr σ Hz1 H1 s W (compL vs t ft fe (items.drop (i + 1)) acc ρi) Q) := by
          refine bind_core (U := []) (fun _ _ => by simp) hx eb Si fr fun σ2 es3 _ S3 r5 => ?_
          refine ⟨ρ2, es3, _, Hz2, S3, r5, ?_⟩
          have back : ∀ {ρ3 : Vr} {es4 : List Ent} {Hz4 H4 : Hp} {acc : List D}, R K (es4 ++ (⟨.ref L, 1, .lst acc⟩ :: ⟨hv2, hold.q, hold.d⟩ :: Fr)) Hz4 H4 → Slots σ2 ρ3 es4 → ∃ es5, Slots (L2.wipe σ2 vs) (wipeV ρ3 vs) es5 ∧ R K (⟨.ref L, 1, .lst acc⟩ :: ⟨hv2, hold.q, hold.d⟩ :: (es5 ++ Fr)) Hz4 H4 := by
            intro ρ3 es4 Hz4 H4 acc r6 S4
            obtain ⟨es5, dr5, S5, p5⟩ := S4.wipe (vs := vs)
            refine ⟨es5, S5, ?_⟩
            have r7 := r6.perm (p5.append_right _)
            rw [List.append_assoc] at r7
            refine r7.right.perm ?_
            exact (List.perm_middle (l₁ := es5)).trans ((List.perm_middle (l₁ := es5) (a := (⟨hv2, hold.q, hold.d⟩ : Ent))).cons _)
          cases et : ft ρ2 with
          | stuck => rw [et] at qi; exact qi
          | exc C ns xs ρ' => rw [et] at qi; exact qi.elim
          | ok bb ρ3 =>
            rw [et] at qi
            obtain ⟨q0, b0, d0⟩ := bb
            intro w H4 Hz4 es4 e4 k4 S4 o4
            cases d0 with
            | bl tt =>
              refine ⟨tt, o4.bl rfl, ?_⟩
              cases tt with
              | false =>
                refine iteF ?_
                obtain ⟨es5, S5, r7⟩ := back o4.rest S4
                exact ⟨_, es5, Hz4, acc, (ezi.trans e1).trans e4, fun z => ((kk z).trans e2).trans (k4 (hs z).2.1), S5, fun i hi => wipeV_none hi, r7, qi⟩
              | true =>
                refine iteT ?_
                dsimp only at qi
                refine ⟨ρ3, es4, _, Hz4, S4, o4.rest, ?_⟩
                cases ee : fe ρ3 with
                | stuck => rw [ee] at qi; exact qi
                | exc C ns xs ρ' => rw [ee] at qi; exact qi.elim
                | ok y ρ4 =>
                  rw [ee] at qi
                  dsimp only at qi
                  intro yv H5 Hz5 es5 e5 k5 S5 o5
                  split at qi
                  · rename_i c
                    obtain ⟨Hz6, e6, r6⟩ := (o5.own c.1).weaken 0 (.inl (Nat.zero_le _))
                    have rd : Rp K Hz6 yv y.d := r6.rp0
                    obtain ⟨es7, S7, r8⟩ := back r6.tail S5
                    obtain ⟨A, hA⟩ := r8.head
                    obtain ⟨a', vs', B, ea, _, ha, ow⟩ := hA.lst_inv
                    cases ea
                    refine ⟨vs', ha, by rw [ow.length]; exact big_lt c.2, _, es7, Hz6, acc ++ [y.d], (((ezi.trans e1).trans e4).trans e5).trans e6, fun z => ?_, S7, fun i hi => wipeV_none hi, r8.extend ha (.cons rd .nil), qi⟩
                    exact ((((kk z).trans e2).trans (k4 (hs z).2.1)).trans (k5 (hs z).2.2)).mut hL
                  · exact qi.elim
            | _ => exact qi.elim
        have fin2 := gT_wipe hv fin
        -- the slots are forgotten again
        revert fin2
        have mono : ∀ {Q1 Q2 : L2.St → Hp → Prop}, (∀ σ2 H3, L2.wipe σ2 vs = L2.wipe (L2.wipe σ vs) vs → Q1 σ2 H3 → Q2 σ2 H3) → gT K t x (L2.wipe σ vs) H2 (fun σ2 H3 => L2.wipe σ2 vs = L2.wipe (L2.wipe σ vs) vs ∧ Q1 σ2 H3) → gT K t x (L2.wipe σ vs) H2 Q2 := by
          intro Q1 Q2 imp h
          have nm : ∀ {is : List Nat} {ws : List V} {τ : L2.St}, gNames is ws τ H2 (fun σ2 H3 => L2.wipe σ2 vs = L2.wipe (L2.wipe σ vs) vs ∧ Q1 σ2 H3) → gNames is ws τ H2 Q2 := by
            intro is
            induction is with
            | nil => intro ws τ h; exact ⟨h.1, imp _ _ h.2.1 h.2.2⟩
            | cons i is ih => intro ws τ ⟨v, r, e, h⟩; exact ⟨v, r, e, ih h⟩
          cases t with
          | nm i => exact imp _ _ h.1 h.2
          | tp is =>
            obtain ⟨a, xs, e1, e2, e3, h⟩ := h
            exact ⟨a, xs, e1, e2, e3, nm h⟩
        refine mono fun σ2 H3 ew q3 => ?_
        rw [wipe_wipe σ vs vs fun _ h => h] at ew
        rw [ew] at q3
        exact ⟨ew, q3⟩
    · have hl : items.length ≤ i := by omega
      rw [List.drop_eq_nil_of_le hl] at qi
      refine .inl ⟨w2 hl, qi (.ref L) H' Hzi esi ezi kk (Si.unwipe wi) (.of rfl ?_)⟩
      exact (ri.perm (List.Perm.swap _ _ _)).tail
/-- the same, what is walked known; it is there at the end again -/
theorem lc_coreH {vs : List Nat} {t : Tg} {ft fe : EF} {Q : VK} {J : It} {hv2 : V} {hold : RV} {items : List D} {ρ1 : Vr} {es1 Fr : List Ent} {Hz1 H1 : Hp} (hv : ∀ i ∈ t.all, i ∈ vs) (hs : s = true → sb = true ∧ sc = true) (S1 : Slots σ ρ1 es1) (r1 : R K (⟨hv2, hold.q, hold.d⟩ :: (es1 ++ Fr)) Hz1 H1) (wk : Walks K J hv2 hold items)
    (q1 : RetE K (⟨hv2, hold.q, hold.d⟩ :: Fr) σ Hz1 H1 s W (compL vs t ft fe items [] (wipeV ρ1 vs)) Q) : ∀ L, H1 L = none → ∃ Wi : Nat → Nat → Hp → Prop, (∃ m, Wi 0 m (upd H1 L (.lst []))) ∧ ∀ i m H, Wi i m H →
  (J.stop i H ∧ Q (.ref L) H) ∨ (J.go i H ∧ ∃ Nx : Hp → Prop, (∀ H', Nx H' → ∃ m', m' < m ∧ Wi (i + 1) m' H') ∧ ∀ x H', J.yld i H x H' → gT K t x (L2.wipe σ vs) H' fun σ2 H2 => L2.wipe σ2 vs = L2.wipe σ vs ∧ tT K W0 sb ft σ2 H2 fun b H3 =>
    if b = true then tE K W0 sc fe σ2 H3 fun y H4 => ∃ acc, H4 L = some (.lst acc) ∧ acc.length < sizeLine ∧ Nx (upd H4 L (.lst (acc ++ [y]))) else Nx H3) := by
  intro L hL
  obtain ⟨es2, dr, S2, p2⟩ := S1.wipe (vs := vs)
  -- the new list, owned
  have r2 : R K (⟨.ref L, 1, .lst []⟩ :: ⟨hv2, hold.q, hold.d⟩ :: (es2 ++ Fr)) Hz1 (upd H1 L (.lst [])) := by
    have r3 := r1.perm ((p2.append_right Fr).cons ⟨hv2, hold.q, hold.d⟩)
    rw [List.append_assoc] at r3
    have r4 : R K (⟨hv2, hold.q, hold.d⟩ :: (es2 ++ Fr)) Hz1 H1 := (r3.perm (List.perm_middle (l₁ := dr)).symm).right
    exact (new_lst r4 hL .nil).own rfl
  have q2 : ∃ ρi esi Hzi acc, Ex Hz1 Hzi ∧ (s = true → Ex H1 (upd H1 L (.lst []))) ∧ Slots (L2.wipe σ vs) ρi esi ∧ (∀ i ∈ vs, ρi[i]? = some none ∨ ρi.length ≤ i) ∧ R K (⟨.ref L, 1, .lst acc⟩ :: ⟨hv2, hold.q, hold.d⟩ :: (esi ++ Fr)) Hzi (upd H1 L (.lst [])) ∧ RetE K (⟨hv2, hold.q, hold.d⟩ :: Fr) σ Hz1 H1 s W (compL vs t ft fe (items.drop 0) acc ρi) Q :=
    ⟨_, es2, Hz1, [], Ex.refl _, fun _ => Ex.new hL, S2, fun i hi => wipeV_none hi, r2, q1⟩
  refine ⟨fun i m H' => m = items.length - i ∧ i ≤ items.length ∧ ∃ ρi esi Hzi acc, Ex Hz1 Hzi ∧ (s = true → Ex H1 H') ∧ Slots (L2.wipe σ vs) ρi esi ∧ (∀ i ∈ vs, ρi[i]? = some none ∨ ρi.length ≤ i) ∧ R K (⟨.ref L, 1, .lst acc⟩ :: ⟨hv2, hold.q, hold.d⟩ :: (esi ++ Fr)) Hzi H' ∧ RetE K (⟨hv2, hold.q, hold.d⟩ :: Fr) σ Hz1 H1 s W (compL vs t ft fe (items.drop i) acc ρi) Q,
    ⟨items.length, by simp, Nat.zero_le _, q2⟩, ?_⟩
  rintro i m H' ⟨rfl, hi, ρi, esi, Hzi, acc, ezi, kk, Si, wi, ri, qi⟩
  obtain ⟨w1, w2⟩ := wk i _ Hzi H' (ri.perm (List.Perm.swap _ _ _))
  by_cases hlt : i < items.length
  · obtain ⟨d, hd⟩ : ∃ d, items[i]? = some d := ⟨_, List.getElem?_eq_getElem hlt⟩
    obtain ⟨go, yl⟩ := w1 d hd
    have hdrop : items.drop i = d :: items.drop (i + 1) := by
      obtain ⟨h1, h2⟩ := List.getElem?_eq_some_iff.mp hd
      rw [List.drop_eq_getElem_cons h1, h2]
    rw [hdrop] at qi
    unfold compL at qi
    refine .inr ⟨go, fun H'' => ∃ ρi esi Hzi acc, Ex Hz1 Hzi ∧ (s = true → Ex H1 H'') ∧ Slots (L2.wipe σ vs) ρi esi ∧ (∀ i ∈ vs, ρi[i]? = some none ∨ ρi.length ≤ i) ∧ R K (⟨.ref L, 1, .lst acc⟩ :: ⟨hv2, hold.q, hold.d⟩ :: (esi ++ Fr)) Hzi H'' ∧ RetE K (⟨hv2, hold.q, hold.d⟩ :: Fr) σ Hz1 H1 s W (compL vs t ft fe (items.drop (i + 1)) acc ρi) Q,
      fun H'' h => ⟨items.length - (i + 1), by omega, rfl, hlt, h⟩, fun x H2 hy => ?_⟩
    obtain ⟨Hz2, e1, e2, hx, r3⟩ := yl x H2 hy
    have r4 := r3.perm (List.Perm.swap _ _ _)
    cases eb : bindT t d ρi with
    | none => rw [eb] at qi; exact qi.elim
    | some ρ2 =>
      rw [eb] at qi
      dsimp only at qi
      -- frames: the list, the thing walked
      have fr : R K (esi ++ (⟨.ref L, 1, .lst acc⟩ :: ⟨hv2, hold.q, hold.d⟩ :: Fr)) Hz2 H2 := by
        refine r4.perm ?_
        have p1 : (esi ++ (⟨hv2, hold.q, hold.d⟩ :: Fr)).Perm (⟨hv2, hold.q, hold.d⟩ :: (esi ++ Fr)) := List.perm_middle
        exact ((List.perm_middle (l₁ := esi) (a := (⟨.ref L, 1, .lst acc⟩ : Ent))).trans (p1.cons _)).symm
      have fin : gT K t x (L2.wipe σ vs) H2 fun σ2 H3 => tT K W0 sb ft σ2 H3 fun b H4 => if b = true then tE K W0 sc fe σ2 H4 fun y H5 => ∃ acc', H5 L = some (.lst acc') ∧ acc'.length < sizeLine ∧ (∃ ρi esi Hzi acc, Ex Hz1 Hzi ∧ (s = true → Ex H1 (upd H5 L (.lst (acc' ++ [y])))) ∧ Slots (L2.wipe σ2 vs) ρi esi ∧ (∀ i ∈ vs, ρi[i]? = some none ∨ ρi.length ≤ i) ∧ R K (⟨.ref L, 1, .lst acc⟩ :: ⟨hv2, hold.q, hold.d⟩ :: (esi ++ Fr)) Hzi (upd H5 L (.lst (acc' ++ [y]))) ∧ RetE K (⟨hv2, hold.q, hold.d⟩ :: Fr) σ Hz1 H1 s W (compL vs t ft fe (items.drop (i + 1)) acc ρi) Q)
            else (∃ ρi esi Hzi acc, Ex Hz1 Hzi ∧ (s = true → Ex H1 H4) ∧ Slots (L2.wipe σ2 vs) ρi esi ∧ (∀ i ∈ vs, ρi[i]? = some none ∨ ρi.length ≤ i) ∧ R K (⟨.ref L, 1, .lst acc⟩ :: ⟨hv2, hold.q, hold.d⟩ :: (esi ++ Fr)) Hzi H4 ∧ RetE K (⟨hv2, hold.q, hold.d⟩ :: Fr) σ Hz1 H1 s W (compL vs t ft fe (items.drop (i + 1)) acc ρi) Q) := by
        refine bind_core (U := []) (fun _ _ => by simp) hx eb Si fr fun σ2 es3 _ S3 r5 => ?_
        refine ⟨ρ2, es3, _, Hz2, S3, r5, ?_⟩
        have back : ∀ {ρ3 : Vr} {es4 : List Ent} {Hz4 H4 : Hp} {acc : List D}, R K (es4 ++ (⟨.ref L, 1, .lst acc⟩ :: ⟨hv2, hold.q, hold.d⟩ :: Fr)) Hz4 H4 → Slots σ2 ρ3 es4 → ∃ es5, Slots (L2.wipe σ2 vs) (wipeV ρ3 vs) es5 ∧ R K (⟨.ref L, 1, .lst acc⟩ :: ⟨hv2, hold.q, hold.d⟩ :: (es5 ++ Fr)) Hz4 H4 := by
          intro ρ3 es4 Hz4 H4 acc r6 S4
          obtain ⟨es5, dr5, S5, p5⟩ := S4.wipe (vs := vs)
          refine ⟨es5, S5, ?_⟩
          have r7 := r6.perm (p5.append_right _)
          rw [List.append_assoc] at r7
          refine r7.right.perm ?_
          exact (List.perm_middle (l₁ := es5)).trans ((List.perm_middle (l₁ := es5) (a := (⟨hv2, hold.q, hold.d⟩ : Ent))).cons _)
        cases et : ft ρ2 with
        | stuck => rw [et] at qi; exact qi
        | exc C ns xs ρ' => rw [et] at qi; exact qi.elim
        | ok bb ρ3 =>
          rw [et] at qi
          obtain ⟨q0, b0, d0⟩ := bb
          intro w H4 Hz4 es4 e4 k4 S4 o4
          cases d0 with
          | bl tt =>
            refine ⟨tt, o4.bl rfl, ?_⟩
            cases tt with
            | false =>
              refine iteF ?_
              obtain ⟨es5, S5, r7⟩ := back o4.rest S4
              exact ⟨_, es5, Hz4, acc, (ezi.trans e1).trans e4, fun z => ((kk z).trans e2).trans (k4 (hs z).1), S5, fun i hi => wipeV_none hi, r7, qi⟩
            | true =>
              refine iteT ?_
              dsimp only at qi
              refine ⟨ρ3, es4, _, Hz4, S4, o4.rest, ?_⟩
              cases ee : fe ρ3 with
              | stuck => rw [ee] at qi; exact qi
              | exc C ns xs ρ' => rw [ee] at qi; exact qi.elim
              | ok y ρ4 =>
                rw [ee] at qi
                dsimp only at qi
                intro yv H5 Hz5 es5 e5 k5 S5 o5
                split at qi
                · rename_i c
                  obtain ⟨Hz6, e6, r6⟩ := (o5.own c.1).weaken 0 (.inl (Nat.zero_le _))
                  have rd : Rp K Hz6 yv y.d := r6.rp0
                  obtain ⟨es7, S7, r8⟩ := back r6.tail S5
                  obtain ⟨A, hA⟩ := r8.head
                  obtain ⟨a', vs', B, ea, _, ha, ow⟩ := hA.lst_inv
                  cases ea
                  refine ⟨vs', ha, by rw [ow.length]; exact big_lt c.2, _, es7, Hz6, acc ++ [y.d], (((ezi.trans e1).trans e4).trans e5).trans e6, fun z => ?_, S7, fun i hi => wipeV_none hi, r8.extend ha (.cons rd .nil), qi⟩
                  exact ((((kk z).trans e2).trans (k4 (hs z).1)).trans (k5 (hs z).2)).mut hL
                · exact qi.elim
          | _ => exact qi.elim
      have fin2 := gT_wipe hv fin
      -- the slots are forgotten again
      revert fin2
      have mono : ∀ {Q1 Q2 : L2.St → Hp → Prop}, (∀ σ2 H3, L2.wipe σ2 vs = L2.wipe (L2.wipe σ vs) vs → Q1 σ2 H3 → Q2 σ2 H3) → gT K t x (L2.wipe σ vs) H2 (fun σ2 H3 => L2.wipe σ2 vs = L2.wipe (L2.wipe σ vs) vs ∧ Q1 σ2 H3) → gT K t x (L2.wipe σ vs) H2 Q2 := by
        intro Q1 Q2 imp h
        have nm : ∀ {is : List Nat} {ws : List V} {τ : L2.St}, gNames is ws τ H2 (fun σ2 H3 => L2.wipe σ2 vs = L2.wipe (L2.wipe σ vs) vs ∧ Q1 σ2 H3) → gNames is ws τ H2 Q2 := by
          intro is
          induction is with
          | nil => intro ws τ h; exact ⟨h.1, imp _ _ h.2.1 h.2.2⟩
          | cons i is ih => intro ws τ ⟨v, r, e, h⟩; exact ⟨v, r, e, ih h⟩
        cases t with
        | nm i => exact imp _ _ h.1 h.2
        | tp is =>
          obtain ⟨a, xs, e1, e2, e3, h⟩ := h
          exact ⟨a, xs, e1, e2, e3, nm h⟩
      refine mono fun σ2 H3 ew q3 => ?_
      rw [wipe_wipe σ vs vs fun _ h => h] at ew
      rw [ew] at q3
      exact ⟨ew, q3⟩
  · have hl : items.length ≤ i := by omega
    rw [List.drop_eq_nil_of_le hl] at qi
    refine .inl ⟨w2 hl, qi (.ref L) H' Hzi esi ezi kk (Si.unwipe wi) (.of rfl ?_)⟩
    exact ri.perm (List.perm_middle.symm.cons _)
end
end Pd
end
section
/-! Pd: defs and their calls. -/
namespace Pd
open PySem L2 PyProof.Rows PySem.Spec
/-- a def on the trees: io: which parameters are lent; ns: how many names -/
structure FnC where
  np : Nat
  ns : Nat
  io : List Bool
  body : SF
def outs : List Bool → Vr → List Slot
  | b :: io, s :: ρ => (if b = true then s else none) :: outs io ρ
  | b :: io, [] => none :: outs io []
  | [], _ => []
def enter (fc : FnC) (xs : List RV) : Vr := xs.map (fun x => some (x.q, x.d)) ++ List.replicate (fc.ns - fc.np) none
def runFn (fc : FnC) (xs : List RV) : RC := if xs.length = fc.np ∧ fc.io.length = fc.np then match fc.body (enter fc xs) with
    | .rt x ρ => .ok x (outs fc.io ρ)
    | .nx ρ => .ok (pureV .non) (outs fc.io ρ)
    | .exc C ns xs _ => .exc C ns xs
    | _ => .stuck
  else .stuck
def outE : List V → List Slot → List Ent
  | v :: vs, some (m, d) :: os => ⟨v, m, d⟩ :: outE vs os
  | _ :: vs, none :: os => outE vs os
  | _, _ => []
/-- a def's promise -/
def spF (K : PySem.W.Frag) (np : Nat) (cl : List RV → RC) : Sp := fun vs H Q E => ∃ (xs : List RV) (Fr : List Ent) (Hz : Hp), vs.length = np ∧ vs.length = xs.length ∧ R K (zipE vs xs ++ Fr) Hz H ∧ match cl xs with
  | .ok x os => x.b = false ∧ ∀ v H' Hz', Ex Hz Hz' → R K (⟨v, x.q, x.d⟩ :: (outE vs os ++ Fr)) Hz' H' → Q v H'
  | .exc C ns ys => ∀ dx H' Hz', Ex Hz Hz' → ExcAt K Hz' ns ys dx → R K Fr Hz' H' → E (.ref (ca K C)) dx H'
  | .stuck => False
section
variable {P : Program} {w : World} {K : PySem.W.Frag} {mg : Str → Option Value} {base : Heap}
theorem slots_enter {n : Nat} : ∀ {vs : List V} {xs : List RV}, vs.length = xs.length → Slots (vs.map some ++ List.replicate n none) (xs.map (fun x => some (x.q, x.d)) ++ List.replicate n none) (zipE vs xs)
  | [], [], _ => by
    show Slots (List.replicate n none) (List.replicate n none) []
    induction n with
    | zero => exact .nil
    | succ n ih => exact .no ih
  | v :: vs, x :: xs, h => .so (slots_enter (by simpa using h))
  | [], _ :: _, h => by simp at h
  | _ :: _, [], h => by simp at h
/-- what is given back lies in the slots -/
theorem outs_core : ∀ {io : List Bool} {vs : List V} {σ : L2.St} {ρ : Vr} {es : List Ent}, Slots σ ρ es → vs.length = io.length → (∀ i : Nat, io[i]? = some true → σ[i]? = (vs[i]?).map some) → ∃ dr, es.Perm (outE vs (outs io ρ) ++ dr)
  | [], vs, σ, ρ, es, S, l, h => by
    have : vs = [] := List.length_eq_zero_iff.mp (by simpa using l)
    subst this
    exact ⟨es, List.Perm.refl _⟩
  | b :: io, [], _, _, _, _, l, _ => by simp at l
  | b :: io, v :: vs, _, _, _, .nil, l, h => by
    cases b with
    | true => have := h 0 rfl; simp at this
    | false =>
      obtain ⟨dr, p⟩ := outs_core (io := io) (vs := vs) .nil (by simpa using l) fun i hi => by
        have := h (i + 1) (by simpa using hi)
        simpa using this
      exact ⟨dr, p⟩
  | b :: io, v :: vs, _, _, _, .no S, l, h => by
    obtain ⟨dr, p⟩ := outs_core (io := io) (vs := vs) S (by simpa using l) fun i hi => by simpa using h (i + 1) (by simpa using hi)
    refine ⟨dr, ?_⟩
    unfold outs
    cases b <;> exact p
  | b :: io, v :: vs, _, _, _, .so (v := u) (m := m) (d := d) S, l, h => by
    obtain ⟨dr, p⟩ := outs_core (io := io) (vs := vs) S (by simpa using l) fun i hi => by simpa using h (i + 1) (by simpa using hi)
    unfold outs
    cases b with
    | true =>
      have e := h 0 rfl
      simp at e
      subst e
      exact ⟨dr, p.cons _⟩
    | false => exact ⟨⟨u, m, d⟩ :: dr, (p.cons _).trans List.perm_middle.symm⟩
/-- THE RULE: a def, by its body on the trees -/
theorem def_ok {x qual : Str} {params : Arguments} {body : List Stmt} {scope : Scope} {dvs : List V} {kws : List (Str × V)} {f : Addr} {fd : FuncData} {N ps : List Str} {k : Nat} {fc : FnC} {U : List Nat} (F : FunD K x qual params body scope dvs kws f fd) (S : FnScope N ps scope)
    (hn : ps.length = fc.np) (hN : N.length = fc.ns) (hio : fc.io.length = fc.np) (hU : ∀ i : Nat, fc.io[i]? = some true → i ∈ U)
    (hb : ∀ (cdv : Value) (A : Around) (outer : List Env) (s : Shared) (H : Hp) (E : XK), Room k (A.deeper (envOfC qual scope s.heap.objs.size f cdv)) →
      SB (cxOf (L2.CX P w) P w K mg base N qual scope f cdv A outer s H E) (fun cls d _ H => E cls d H) U body fc.body) : FnOk P w K mg base (L2.CX P w) (k + 1) f fd ps (spF K fc.np (runFn fc)) := by
  refine F.ok S (fun vs H Q E h => ?_) fun cdv A outer s H vs Q E hr h => ⟨_, hb cdv A outer s H E hr, ?_⟩
  · obtain ⟨xs, Fr, Hz, h1, _⟩ := h
    rw [h1, hn]
  · obtain ⟨xs, Fr, Hz, h1, h2, r, q⟩ := h
    have hx : xs.length = fc.np := by omega
    have e0 : L2.start N vs = vs.map some ++ List.replicate (fc.ns - fc.np) none := by unfold L2.start; rw [hN, h1]
    have S0 : Slots (L2.start N vs) (enter fc xs) (zipE vs xs) := by rw [e0]; exact slots_enter h2
    refine ⟨enter fc xs, zipE vs xs, Fr, Hz, S0, r, ?_⟩
    unfold runFn at q
    rw [if_pos ⟨hx, hio⟩] at q
    have back : ∀ {σ' : L2.St} {ρ' : Vr} {es' : List Ent}, Fix U (L2.start N vs) σ' → Slots σ' ρ' es' → ∃ dr, es'.Perm (outE vs (outs fc.io ρ') ++ dr) := fun {σ' ρ' es'} fx S' => by
      refine outs_core S' (by omega) fun i hi => ?_
      rw [fx i (hU i hi), e0]
      have hi2 : i < vs.length := by
        have := (List.getElem?_eq_some_iff.mp hi).1
        omega
      rw [List.getElem?_append_left (by rw [List.length_map]; exact hi2), List.getElem?_map]
    cases e : fc.body (enter fc xs) with
    | stuck => rw [e] at q; exact q
    | bk ρ' => rw [e] at q; exact q.elim
    | ct ρ' => rw [e] at q; exact q.elim
    | exc C ns ys ρ' =>
      rw [e] at q
      exact fun dx σ' H' Hz' es' ez fx ea S' r' => q dx H' Hz' ez ea r'.right
    | nx ρ' =>
      rw [e] at q
      intro σ' H' Hz' es' ez fx S' r'
      obtain ⟨dr, p⟩ := back fx S'
      refine q.2 .non H' Hz' ez ?_
      have r2 := r'.perm (p.append_right Fr)
      rw [List.append_assoc] at r2
      have r3 : R K (dr ++ (outE vs (outs fc.io ρ') ++ Fr)) Hz' H' := r2.perm (by rw [← List.append_assoc, ← List.append_assoc]; exact List.perm_append_comm.append_right _)
      exact r3.right.put (.inl rfl) .non
    | rt x ρ' =>
      rw [e] at q
      refine ⟨q.1, fun v σ' H' Hz' es' ez fx S' r' => ?_⟩
      obtain ⟨dr, p⟩ := back fx S'
      refine q.2 v H' Hz' ez ?_
      have r2 := r'.perm ((p.append_right Fr).cons _)
      rw [List.append_assoc] at r2
      have r3 : R K (dr ++ (⟨v, x.q, x.d⟩ :: (outE vs (outs fc.io ρ') ++ Fr))) Hz' H' := by
        refine r2.perm ?_
        refine List.Perm.trans ?_ List.perm_middle.symm
        refine List.Perm.cons _ ?_
        rw [← List.append_assoc, ← List.append_assoc]
        exact List.perm_append_comm.append_right _
      exact r3.right
/-- a def that is never called -/
theorem fnOk_stuck {k : Nat} {f : Addr} {fd : FuncData} {ps : List Str} {np : Nat} {cl : List RV → RC} (h : ∀ xs, cl xs = .stuck) : FnOk P w K mg base (L2.CX P w) k f fd ps (spF K np cl) :=
  ⟨fun vs H Q E q => by
    obtain ⟨xs, Fr, Hz, _, _, _, q⟩ := q
    rw [h] at q
    exact q.elim, fun A outer s H args us vs Q E hr e0 hb hv q => by
    obtain ⟨xs, Fr, Hz, _, _, _, q⟩ := q
    rw [h] at q
    exact q.elim⟩
end
/-! ### calls -/
/-- what was lent comes back -/
def giveBack : List Ar → List Slot → Vr → Vr
  | .io i :: as, some s :: os, ρ => giveBack as os (ρ.set i (some s))
  | _ :: as, _ :: os, ρ => giveBack as os ρ
  | _, _, ρ => ρ
/-- dfl: the defaults that fill up -/
def eCall (cl : List RV → RC) (dfl : List D) (as : List Ar) : EF := fun ρ => (evA as ρ).bind fun xs ρ1 => match cl (xs ++ dfl.map pureV) with
  | .ok x os => if x.b = true then .stuck else .ok x (giveBack as os ρ1)
  | .exc C ns ys => .exc C ns ys ρ1
  | .stuck => .stuck
section
variable {X : Cx} {W : WX} {s sa sb : Bool} {pos : Pos} {K : PySem.W.Frag} {σ : L2.St} {H Hz : Hp} {Q : VK} {a b : Expr} {fa : EF}
theorem zipE_append : ∀ {vs ws : List V} {xs ys : List RV}, vs.length = xs.length → zipE (vs ++ ws) (xs ++ ys) = zipE vs xs ++ zipE ws ys
  | [], _, [], _, _ => rfl
  | v :: vs, ws, x :: xs, ys, h => by
    show _ :: zipE (vs ++ ws) (xs ++ ys) = _ :: (zipE vs xs ++ zipE ws ys)
    rw [zipE_append (by simpa using h)]
  | [], _, _ :: _, _, h => by simp at h
  | _ :: _, _, [], _, h => by simp at h
theorem R.putL {es : List Ent} (r : R K es Hz H) : ∀ {ws : List V} {ds : List D}, RpL K Hz ws ds → R K (zipE ws (ds.map pureV) ++ es) Hz H
  | _, _, .nil => r
  | _, _, .cons h l => (R.putL r l).put (.inl rfl) h
theorem back_core : ∀ {as : List Ar} {vs : List V} {os : List Slot} {σ : L2.St} {ρ : Vr} {es Fr : List Ent} {Hz H : Hp}, Lent σ as vs → Slots σ ρ es → R K (outE vs os ++ (es ++ Fr)) Hz H → ∃ es', Slots σ (giveBack as os ρ) es' ∧ R K (es' ++ Fr) Hz H
  | [], _, os, σ, ρ, es, Fr, Hz, H, .nil, S, r => by
    cases os <;> exact ⟨es, S, r.right⟩
  | _ :: _, _, [], σ, ρ, es, Fr, Hz, H, l, S, r => by
    refine ⟨es, ?_, r.right (es := outE _ [])⟩
    cases l <;> exact S
  | .ev f :: as, v :: vs, o :: os, σ, ρ, es, Fr, Hz, H, .ev l, S, r => by
    have r2 : R K (outE vs os ++ (es ++ Fr)) Hz H := by
      cases o with
      | none => exact r
      | some md => exact r.tail
    obtain ⟨es', S', r'⟩ := back_core l S r2
    refine ⟨es', ?_, r'⟩
    unfold giveBack; exact S'
  | .io i :: as, v :: vs, none :: os, σ, ρ, es, Fr, Hz, H, .io e l, S, r => by
    obtain ⟨es', S', r'⟩ := back_core l S r
    exact ⟨es', S', r'⟩
  | .io i :: as, v :: vs, some (m, d) :: os, σ, ρ, es, Fr, Hz, H, .io e l, S, r => by
    have r1 : R K (⟨v, m, d⟩ :: (outE vs os ++ (es ++ Fr))) Hz H := r
    by_cases hi : i < ρ.length
    · obtain ⟨es1, dr, es2, h1, h2, h3⟩ := S.store (v := v) (m := m) (d := d) hi
      have hσ : σ.set i (some v) = σ := by
        apply List.ext_getElem?
        intro j
        by_cases hj : i = j
        · subst hj
          rw [e, List.getElem?_set_self (List.getElem?_eq_some_iff.mp e).1]
        · rw [List.getElem?_set_ne hj]
      rw [hσ] at h1
      have r2 : R K (outE vs os ++ (es2 ++ Fr)) Hz H := by
        have r3 := r1.perm (((h3.append_right Fr).append_left (outE vs os)).cons _)
        -- drop what the slot held
        have r4 : R K (dr ++ (⟨v, m, d⟩ :: (outE vs os ++ (es1 ++ Fr)))) Hz H := by
          refine r3.perm ?_
          refine List.Perm.trans ?_ List.perm_middle.symm
          refine List.Perm.cons _ ?_
          rw [List.append_assoc, ← List.append_assoc, ← List.append_assoc dr]
          exact List.perm_append_comm.append_right _
        refine r4.right.perm ?_
        refine List.Perm.trans ?_ ((h2.append_right Fr).append_left (outE vs os)).symm
        exact List.perm_middle.symm
      obtain ⟨es', S', r'⟩ := back_core l h1 r2
      exact ⟨es', S', r'⟩
    · obtain ⟨es', S', r'⟩ := back_core (os := os) l S r1.tail
      refine ⟨es', ?_, r'⟩
      show Slots σ (giveBack as os (ρ.set i (some (m, d)))) es'
      rw [List.set_eq_of_length_le (by omega)]
      exact S'
/-- the end of any call -/
theorem call_fin {cl : List RV → RC} {dfl : List D} {as : List Ar} {vs dvs : List V} {xs : List RV} {ρ1 : Vr} {es1 Fr : List Ent} {np : Nat} (S : Slots σ ρ1 es1) (l : vs.length = xs.length) (t : Lent σ as vs) (r : R K (zipE vs xs ++ (es1 ++ Fr)) Hz H)
    (hd : RpL K Hz dvs dfl) (hnp : ∀ ys, cl ys ≠ .stuck → ys.length = np) (q : RetE K Fr σ Hz H false W (match cl (xs ++ dfl.map pureV) with
      | .ok x os => if x.b = true then .stuck else .ok x (giveBack as os ρ1)
      | .exc C ns ys => .exc C ns ys ρ1
      | .stuck => .stuck) Q) : spF K np cl (vs ++ dvs) H Q (WE W σ) := by
  have hl : (vs ++ dvs).length = (xs ++ dfl.map pureV).length := by rw [List.length_append, List.length_append, List.length_map, l, hd.length]
  have hns : cl (xs ++ dfl.map pureV) ≠ .stuck := fun e => by rw [e] at q; exact q.elim
  refine ⟨xs ++ dfl.map pureV, es1 ++ Fr, Hz, by rw [hl]; exact hnp _ hns, hl, ?_, ?_⟩
  · rw [zipE_append l, List.append_assoc]
    have r2 : R K (zipE dvs (dfl.map pureV) ++ (zipE vs xs ++ (es1 ++ Fr))) Hz H := r.putL hd
    refine r2.perm ?_
    rw [← List.append_assoc (zipE dvs _), ← List.append_assoc (zipE vs xs)]
    exact List.perm_append_comm.append_right _
  · have oE : ∀ {ws : List V} {vs : List V} {os : List Slot}, ∃ more, outE (vs ++ ws) os = outE vs os ++ more := by
      intro ws vs
      induction vs with
      | nil => intro os; exact ⟨outE ws os, by cases os <;> rfl⟩
      | cons v vs ih =>
        intro os
        cases os with
        | nil => exact ⟨[], by rfl⟩
        | cons o os =>
          obtain ⟨more, e⟩ := ih (os := os)
          cases o with
          | none => exact ⟨more, e⟩
          | some md => exact ⟨more, congrArg (List.cons _) e⟩
    cases e : cl (xs ++ dfl.map pureV) with
    | stuck => exact absurd e hns
    | exc C ns ys =>
      rw [e] at q
      exact fun dx H' Hz' ez ea r' => q dx H' Hz' es1 ez ea S r'
    | ok x os =>
      rw [e] at q
      dsimp only at q ⊢
      split at q
      · exact q.elim
      · rename_i hb
        have hb' : x.b = false := by simpa using hb
        refine ⟨hb', fun v H' Hz' ez r' => ?_⟩
        obtain ⟨more, em⟩ := oE (ws := dvs) (vs := vs) (os := os)
        rw [em, List.append_assoc] at r'
        -- the value aside; what the defaults gave back is dropped
        have r2 : R K (outE vs os ++ (es1 ++ (⟨v, x.q, x.d⟩ :: Fr))) Hz' H' := by
          have r3 : R K (more ++ (⟨v, x.q, x.d⟩ :: (outE vs os ++ (es1 ++ Fr)))) Hz' H' := by
            refine r'.perm ?_
            refine List.Perm.trans ?_ List.perm_middle.symm
            refine List.Perm.cons _ ?_
            rw [← List.append_assoc, ← List.append_assoc more]
            exact List.perm_append_comm.append_right _
          refine r3.right.perm ?_
          rw [← List.append_assoc, ← List.append_assoc]
          exact List.perm_middle.symm
        obtain ⟨es', S', r4⟩ := back_core t S r2
        exact q v H' Hz' es' ez (fun z => by cases z) S' (.of hb' r4.swap4)
theorem runFn_np {fc : FnC} {ys : List RV} (h : runFn fc ys ≠ .stuck) : ys.length = fc.np := by
  unfold runFn at h
  split at h
  · rename_i c; exact c.1
  · exact absurd rfl h
end
end Pd
end
section
/-! Pd: calls of defs, of methods, of classes. -/
namespace Pd
open PySem L2 PyProof.Rows PySem.Spec
/-- the def at f, called with so many arguments that dfl fills up -/
structure Callee (X : Cx) (k : Nat) (f : Addr) (np : Nat) (cl : List RV → RC) (dfl : List D) : Prop where
  ex : ∃ (fd : FuncData) (ps : List Str) (dvs : List V) (ds : List Value), FnOk X.prog X.w X.K X.mg X.base (L2.CX X.prog X.w) k f fd ps (spF X.K np cl) ∧ Binds X.K fd ps ds ∧ Vals dvs ds ∧ ∀ H, RpL X.K H dvs dfl
  np : ∀ ys, cl ys ≠ .stuck → ys.length = np
section
variable {X : Cx} {W : WX} {s sa sb : Bool} {p pos apos : Pos} {K : PySem.W.Frag} {σ : L2.St} {H Hz : Hp} {Q : VK} {a b : Expr} {fa : EF} {k np : Nat} {f : Addr} {cl : List RV → RC} {dfl : List D} {es : List Expr} {as : List Ar}
theorem se_call {x : Str} (F : Callee X k f np cl dfl) (hm : X.mg x = some (.ref f)) (hk : PySem.W.keepIn X.K (.ref f) = true) (hr : Room k X.A) (tk : Takes X W) (ha : SA X W false (a :: es) as) (hg : Gl X x := by rfl) (hdb : (x == ("__debug__" : Str)) = false := by decide)
    (he : starEach (a :: es) X.env = (false, eval a X.env) :: starEach es X.env := by rfl) (hpl : (backTo pos (starEach es X.env)).any (·.1) = false := by rfl) : SE X W false (.Call (.Name x p) (a :: es) [] pos) (eCall cl dfl as) := by
  obtain ⟨fd, ps, dvs, ds, F1, hb, hd, hz⟩ := F.ex
  refine peImp (pe_callSD F1 hr hg hm hk hb hd (passAt tk) ha hdb he hpl) fun σ H Q q => ?_
  exact oneA q id fun vs xs ρ1 es1 Fr Hz1 H1 S l t r q => call_fin S l t r (hz _) F.np q
/-- no arguments -/
theorem pe_callS0 {CX : CXT} {fd : FuncData} {ps : List Str} {sp : Sp} {dvs : List V} {ds : List Value} {E : L2.St → XK} {x : Str} (F : FnOk X.prog X.w X.K X.mg X.base CX k f fd ps sp) (hr : Room k X.A) (hg : Gl X x) (hm : X.mg x = some (.ref f)) (hk : PySem.W.keepIn X.K (.ref f) = true) (hb : Binds X.K fd ps ds) (hd : Vals dvs ds) (hx : ∀ σ, PassesAt CX X σ (E σ))
    (hdb : (x == ("__debug__" : Str)) = false := by decide) : PE X (.Call (.Name x p) [] [] pos) (tCallSD sp dvs E tNil) := by
  refine ⟨fun pins s σ H Q I h => ?_⟩
  refine wpAny_Call_Name_kw (ld_glob I hg hm ?_ hdb)
  exact PySem.W.callWith_K0 I.kIn hk (run_fnSD (us := []) F hr hb hd (hx σ) I .nil h)
theorem se_call0 {x : Str} (F : Callee X k f np cl dfl) (hm : X.mg x = some (.ref f)) (hk : PySem.W.keepIn X.K (.ref f) = true) (hr : Room k X.A) (tk : Takes X W) (hg : Gl X x := by rfl) (hdb : (x == ("__debug__" : Str)) = false := by decide) : SE X W false (.Call (.Name x p) [] [] pos) (eCall cl dfl []) := by
  obtain ⟨fd, ps, dvs, ds, F1, hb, hd, hz⟩ := F.ex
  refine peImp (pe_callS0 F1 hr hg hm hk hb hd (passAt tk) hdb) fun σ H Q q => ?_
  obtain ⟨ρ, es, Fr, Hz, S, r, q⟩ := q
  exact call_fin (vs := []) (xs := []) (as := []) S rfl .nil r (hz _) F.np q

/-! ### methods -/
/-- a method of the class at C -/
def MOk (X : Cx) (k : Nat) (C : Addr) (m : Str) (np : Nat) (cl : List RV → RC) (dfl : List D) : Prop := Cls X.K C ∧ ∃ g, Meth X.K C m g ∧ Callee X k g np cl dfl
def tMethD (X : Cx) (k : Nat) (m : Str) (E : L2.St → XK) (ta : TE) (t : TA) : TE := fun σ H Q => ta σ H fun x H1 => ∃ a C dx fs np cl dfl, x = .ref a ∧ H1 a = some (.ins C dx fs) ∧ fs.lookup m = none ∧ MOk X k C m np cl dfl ∧
  t σ H1 fun vs H2 => ∀ dvs, (∀ H, RpL X.K H dvs dfl) → spF X.K np cl (x :: (vs ++ dvs)) H2 Q (E σ)
theorem pe_methD {m : Str} {E : L2.St → XK} {o e : Expr} {ta : TE} {t : TA} {pl : Sem Bool} (he : PE X o ta) (hr : Room k X.A) (hx : ∀ σ, PassesAt (L2.CX X.prog X.w) X σ (E σ)) (ha : PA X (e :: es) t)
    (hst : starEach (e :: es) X.env = (false, eval e X.env) :: starEach es X.env) (hpl : (backTo pos (starEach es X.env)).any (·.1) = false)
    (ht : eval (.Call (.Attribute o m apos) (e :: es) [] pos) X.env = (do
      let ov ← eval o X.env
      standAt apos.atName
      let (f, first) ← holding [ov] (getMethod ov m pl)
      callWith pos f first (backTo pos (starEach (e :: es) X.env)) (backToKw pos (keywordEach [] X.env)))) :
    PE X (.Call (.Attribute o m apos) (e :: es) [] pos) (tMethD X k m E ta t) := by
  refine ⟨fun pins s σ H Q I h => ?_⟩
  refine PySem.W.methodCall_KW (pl := pl) (thn (he.run pins s σ H _ I h) fun u s1 ⟨x, H1, I1, rx, a, C, dx, fs, np, cl, dfl, ex, ea, l, ⟨c, g, hm, F⟩, q⟩ => ?_) ht
  subst ex
  obtain rfl : u = Value.ref a := rx
  obtain ⟨fd, ps, dvs, ds, F1, hb, hd, hz⟩ := F.ex
  refine getmeth_ok I1 ea c hm l ?_
  refine PySem.W.callWith_K (first := [.ref a]) (h₀ := X.base) I.ok.mod.kin hm.kp (thn (ha.run pos pins s1 σ H1 _ I1 q) fun us s2 ⟨vs, H2, I2, r, q2⟩ => ⟨I2.kIn, ?_⟩) hst hpl
  exact run_fnSD (us := .ref a :: us) (vs := .ref a :: vs) F1 hr hb hd (hx σ) I2 (.cons rfl r) (q2 dvs hz)
theorem pe_methD0 {m : Str} {E : L2.St → XK} {o : Expr} {ta : TE} {pl : Sem Bool} (he : PE X o ta) (hr : Room k X.A) (hx : ∀ σ, PassesAt (L2.CX X.prog X.w) X σ (E σ))
    (ht : eval (.Call (.Attribute o m apos) [] [] pos) X.env = (do
      let ov ← eval o X.env
      standAt apos.atName
      let (f, first) ← holding [ov] (getMethod ov m pl)
      callWith pos f first (backTo pos (starEach [] X.env)) (backToKw pos (keywordEach [] X.env)))) :
    PE X (.Call (.Attribute o m apos) [] [] pos) (tMethD X k m E ta tNil) := by
  refine ⟨fun pins s σ H Q I h => ?_⟩
  refine PySem.W.methodCall_KW (pl := pl) (thn (he.run pins s σ H _ I h) fun u s1 ⟨x, H1, I1, rx, a, C, dx, fs, np, cl, dfl, ex, ea, l, ⟨c, g, hm, F⟩, q⟩ => ?_) ht
  subst ex
  obtain rfl : u = Value.ref a := rx
  obtain ⟨fd, ps, dvs, ds, F1, hb, hd, hz⟩ := F.ex
  refine getmeth_ok I1 ea c hm l ?_
  exact PySem.W.callWith_K0 (first := [.ref a]) I1.kIn hm.kp (run_fnSD (us := [.ref a]) (vs := [.ref a]) F1 hr hb hd (hx σ) I1 (.cons rfl .nil) (q dvs hz))
/-- the receiver -/
def evH : Ar → EF
  | .ev f => fun ρ => (f ρ).bind fun x ρ1 => if x.b = true then .stuck else .ok x ρ1
  | .io i => eMv i
abbrev MTab := Nm → Option (Nat × (List RV → RC) × List D)
def recv (ms : MTab) (m : Nm) (x : RV) : Option (Nat × (List RV → RC) × List D) := match x.d with
  | .ins C ns _ => if m ∈ ns then none else ms C
  | _ => none
def callEnd (cl : List RV → RC) (dfl : List D) (as : List Ar) (xs : List RV) : EF := fun ρ1 => match cl (xs ++ dfl.map pureV) with
  | .ok x os => if x.b = true then .stuck else .ok x (giveBack as os ρ1)
  | .exc C ns ys => .exc C ns ys ρ1
  | .stuck => .stuck
def eMeth (ms : MTab) (m : Nm) (h : Ar) (as : List Ar) : EF := match h with
  | .ev f => fun ρ => (evH (.ev f) ρ).bind fun x ρ1 => match recv ms m x with
    | some (_, cl, dfl) => (evA as ρ1).bind fun xs => callEnd cl dfl (.ev f :: as) (x :: xs)
    | none => .stuck
  | .io i => fun ρ => match ρ[i]? with
    | some (some (m0, d0)) => match recv ms m ⟨m0, false, d0⟩ with
      | some (_, cl, dfl) => (evA as ρ).bind fun xs ρ1 => match ρ1[i]? with
        | some (some (m1, d1)) => callEnd cl dfl (.io i :: as) (⟨m1, false, d1⟩ :: xs) (ρ1.set i none)
        | _ => .stuck
      | none => .stuck
    | _ => .stuck
/-- the receiver at hand: its reading -/
inductive Hd (X : Cx) (W : WX) : Expr → Ar → TE → Prop
  | ev {e : Expr} {f : EF} {s : Bool} : SE X W s e f → Hd X W e (.ev f) (tE X.K W s f)
  | io {i : Nat} {x : Str} {p : Pos} : PE X (.Name x p) (tVar i) → Hd X W (.Name x p) (.io i) (tVar i)
theorem Hd.pe {e : Expr} {h : Ar} {t : TE} (hd : Hd X W e h t) : PE X e t := by
  cases hd with
  | ev h => exact h
  | io h => exact h
theorem lookup_notin {m : Nm} (inj : ∀ n : Nm, n.str = m.str → n = m) : ∀ {ns : List Nm} {vs : List V}, m ∉ ns → ((ns.map Nm.str).zip vs).lookup m.str = none
  | [], _, _ => by rw [List.map_nil, List.zip_nil_left]; rfl
  | n :: ns, [], _ => by rw [List.zip_nil_right]; rfl
  | n :: ns, v :: vs, h => by
    rw [List.map_cons, List.zip_cons_cons, List.lookup_cons]
    have hb : (m.str == n.str) = false := beq_eq_false_iff_ne.mpr fun q => h (by rw [inj n q.symm]; exact List.mem_cons_self)
    rw [hb]
    exact lookup_notin inj fun q => h (List.mem_cons_of_mem _ q)
theorem meth_core {ms : MTab} {m : Nm} {o : Expr} {h : Ar} {t : TE} {ta : TA} (inj : ∀ n : Nm, n.str = m.str → n = m) (hd : Hd X W o h t) (M : ∀ C np cl dfl, ms C = some (np, cl, dfl) → MOk X k (ca X.K C) m.str np cl dfl)
    (q : tE X.K W false (eMeth ms m h as) σ H Q) (hta : ∀ {Q2 : List V → Hp → Prop} {H}, tA X.K W false as σ H Q2 → ta σ H Q2) : tMethD X k m.str (WE W) t ta σ H Q := by
  obtain ⟨ρ, es, Fr, Hz, S, r, q⟩ := q
  have go : ∀ {v : V} {x : RV} {ρ1 : Vr} {es1 : List Ent} {Hz1 H1 : Hp}, Slots σ ρ1 es1 → R X.K (⟨v, x.q, x.d⟩ :: (es1 ++ Fr)) Hz1 H1 → (∀ vs2, Lent σ as vs2 → Lent σ (h :: as) (v :: vs2)) →
      RetE X.K Fr σ Hz1 H1 false W (match recv ms m x with
        | some (_, cl, dfl) => (evA as ρ1).bind fun xs => callEnd cl dfl (h :: as) (x :: xs)
        | none => .stuck) Q → ∃ a C dx fs np cl dfl, v = .ref a ∧ H1 a = some (.ins C dx fs) ∧ fs.lookup m.str = none ∧ MOk X k C m.str np cl dfl ∧
        ta σ H1 fun vs H2 => ∀ dvs, (∀ H, RpL X.K H dvs dfl) → spF X.K np cl (v :: (vs ++ dvs)) H2 Q (WE W σ) := by
    intro v x ρ1 es1 Hz1 H1 S1 r1 hv q1
    cases e : recv ms m x with
    | none => rw [e] at q1; exact q1.elim
    | some y =>
      obtain ⟨np, cl, dfl⟩ := y
      rw [e] at q1
      dsimp only at q1
      unfold recv at e
      split at e
      · rename_i C ns ds ed
        split at e
        · cases e
        · rename_i hn
          have hview : View X.K Hz1 H1 v x := r1.head
          obtain ⟨a, dx, vs, A, rfl, ha, _, _⟩ := hview.ins r1.ex ed
          have mo := M C np cl dfl e
          refine ⟨a, _, dx, _, np, cl, dfl, rfl, ha, lookup_notin inj hn, mo, hta ⟨ρ1, es1, ⟨.ref a, x.q, x.d⟩ :: Fr, Hz1, S1, r1.swap3, ?_⟩⟩
          obtain ⟨_, g, _, F⟩ := mo
          cases e2 : evA as ρ1 with
          | stuck => rw [e2] at q1; exact q1.elim
          | exc C ns xs ρ' =>
            rw [e2] at q1
            exact fun dx H' Hz' es' ez a b c => q1 dx H' Hz' es' ez a b c.swap4.tail
          | ok xs ρ2 =>
            rw [e2] at q1
            intro vs2 H2 Hz2 es2 ez2 k2 S2 l2 t2 r2 dvs hz
            refine call_fin (vs := .ref a :: vs2) (xs := x :: xs) (as := h :: as) S2 (by rw [List.length_cons, List.length_cons, l2]) (hv _ t2) ?_ (hz _) F.np (q1.base ez2 fun z => by cases z)
            show R X.K (⟨.ref a, x.q, x.d⟩ :: (zipE vs2 xs ++ (es2 ++ Fr))) Hz2 H2
            refine r2.perm ?_
            rw [← List.append_assoc, ← List.append_assoc]
            exact List.perm_middle
      · cases e
  cases hd with
  | ev hs =>
    rename_i f s
    refine ⟨ρ, es, Fr, Hz, S, r, ?_⟩
    have q' : RetE X.K Fr σ Hz H false W ((f ρ).bind fun x ρ1 => if x.b = true then .stuck else (match recv ms m x with
        | some (_, cl, dfl) => (evA as ρ1).bind fun xs => callEnd cl dfl (.ev f :: as) (x :: xs)
        | none => .stuck)) Q := by
      have q2 : RetE X.K Fr σ Hz H false W (((f ρ).bind fun x ρ1 => if x.b = true then .stuck else .ok x ρ1).bind fun x ρ1 => match recv ms m x with
        | some (_, cl, dfl) => (evA as ρ1).bind fun xs => callEnd cl dfl (.ev f :: as) (x :: xs)
        | none => .stuck) Q := q
      revert q2
      cases f ρ with
      | stuck => exact id
      | exc => exact id
      | ok x ρ1 =>
        by_cases hb : x.b = true
        · intro q; simp only [RE.bind, if_pos hb] at q; exact q.elim
        · intro q; simp only [RE.bind, if_neg hb] at q ⊢; exact q
    cases e : f ρ with
    | stuck => rw [e] at q'; exact q'
    | exc C ns xs ρ' => rw [e] at q'; exact q'
    | ok x ρ1 =>
      rw [e] at q'
      dsimp only [RE.bind] at q'
      intro v H1 Hz1 es1 ez k1 S1 o1
      split at q'
      · exact q'.elim
      · rename_i hb
        exact go S1 (o1.own (by simpa using hb)) (fun _ t => .ev t) (q'.base ez fun z => by cases z)
  | io hp =>
    rename_i i x p
    have q : RetE X.K Fr σ Hz H false W (match ρ[i]? with
      | some (some (m0, d0)) => match recv ms m ⟨m0, false, d0⟩ with
        | some (_, cl, dfl) => (evA as ρ).bind fun xs ρ1 => match ρ1[i]? with
          | some (some (m1, d1)) => callEnd cl dfl (.io i :: as) (⟨m1, false, d1⟩ :: xs) (ρ1.set i none)
          | _ => .stuck
        | none => .stuck
      | _ => .stuck) Q := q
    cases e : ρ[i]? with
    | none => rw [e] at q; exact q.elim
    | some o => cases o with
      | none => rw [e] at q; exact q.elim
      | some md =>
        obtain ⟨m', d⟩ := md
        rw [e] at q
        dsimp only at q
        obtain ⟨v, es', h1, h2, h3⟩ := S.take e
        refine ⟨v, h1, ?_⟩
        cases e1 : recv ms m ⟨m', false, d⟩ with
        | none => rw [e1] at q; exact q.elim
        | some y =>
          obtain ⟨np, cl, dfl⟩ := y
          rw [e1] at q
          dsimp only at q
          unfold recv at e1
          split at e1
          · rename_i C ns ds ed
            split at e1
            · cases e1
            · rename_i hn
              have r0 := r.perm (mid h2)
              have hview : View X.K Hz H v ⟨m', false, d⟩ := r0.head
              obtain ⟨a, dx, vs, A, rfl, ha, _, _⟩ := hview.ins r0.ex ed
              have mo := M C np cl dfl e1
              refine ⟨a, _, dx, _, np, cl, dfl, rfl, ha, lookup_notin inj hn, mo, hta ⟨ρ, es, Fr, Hz, S, r, ?_⟩⟩
              obtain ⟨_, g, _, F⟩ := mo
              cases e2 : evA as ρ with
              | stuck => rw [e2] at q; exact q.elim
              | exc C ns xs ρ' =>
                rw [e2] at q
                exact fun dx H' Hz' es' ez a b c => q dx H' Hz' es' ez a b c
              | ok xs ρ2 =>
                rw [e2] at q
                intro vs2 H2 Hz2 es2 ez2 k2 S2 l2 t2 r2 dvs hz
                dsimp only [RA.bind] at q
                cases e3 : ρ2[i]? with
                | none => rw [e3] at q; exact q.elim
                | some o => cases o with
                  | none => rw [e3] at q; exact q.elim
                  | some md =>
                    obtain ⟨m1, d1⟩ := md
                    rw [e3] at q
                    dsimp only at q
                    obtain ⟨v', es3, g1, g2, g3⟩ := S2.take e3
                    rw [h1] at g1
                    cases g1
                    refine call_fin (vs := .ref a :: vs2) (xs := ⟨m1, false, d1⟩ :: xs) (as := .io i :: as) (np := np) g3 (by rw [List.length_cons, List.length_cons, l2]) (.io h1 t2) ?_ (hz _) F.np (q.base ez2 fun z => by cases z)
                    show R X.K (⟨.ref a, m1, d1⟩ :: (zipE vs2 xs ++ (es3 ++ Fr))) Hz2 H2
                    refine r2.perm ?_
                    refine ((g2.append_right Fr).append_left (zipE vs2 xs)).trans ?_
                    exact List.perm_middle
          · cases e1
theorem se_meth {ms : MTab} (m : Nm) {o : Expr} {h : Ar} {t : TE} {pl : Sem Bool} (inj : ∀ n : Nm, n.str = m.str → n = m) (hd : Hd X W o h t) (M : ∀ C np cl dfl, ms C = some (np, cl, dfl) → MOk X k (ca X.K C) m.str np cl dfl) (hr : Room k X.A) (tk : Takes X W) (ha : SA X W false (a :: es) as)
    (hst : starEach (a :: es) X.env = (false, eval a X.env) :: starEach es X.env := by rfl) (hpl : (backTo pos (starEach es X.env)).any (·.1) = false := by rfl)
    (ht : eval (.Call (.Attribute o m.str apos) (a :: es) [] pos) X.env = (do
      let ov ← eval o X.env
      standAt apos.atName
      let (f, first) ← holding [ov] (getMethod ov m.str pl)
      callWith pos f first (backTo pos (starEach (a :: es) X.env)) (backToKw pos (keywordEach [] X.env))) := by rfl) :
    SE X W false (.Call (.Attribute o m.str apos) (a :: es) [] pos) (eMeth ms m h as) := by
  refine peImp (pe_methD (pl := pl) hd.pe hr (passAt tk) ha hst hpl ht) fun σ H Q q => ?_
  exact meth_core inj hd M q fun h => h
theorem se_meth0 {ms : MTab} (m : Nm) {o : Expr} {h : Ar} {t : TE} {pl : Sem Bool} (inj : ∀ n : Nm, n.str = m.str → n = m) (hd : Hd X W o h t) (M : ∀ C np cl dfl, ms C = some (np, cl, dfl) → MOk X k (ca X.K C) m.str np cl dfl) (hr : Room k X.A) (tk : Takes X W)
    (ht : eval (.Call (.Attribute o m.str apos) [] [] pos) X.env = (do
      let ov ← eval o X.env
      standAt apos.atName
      let (f, first) ← holding [ov] (getMethod ov m.str pl)
      callWith pos f first (backTo pos (starEach [] X.env)) (backToKw pos (keywordEach [] X.env))) := by rfl) :
    SE X W false (.Call (.Attribute o m.str apos) [] [] pos) (eMeth ms m h []) := by
  refine peImp (pe_methD0 (pl := pl) hd.pe hr (passAt tk) ht) fun σ H Q q => ?_
  refine meth_core (as := []) inj hd M q fun {Q2 H} h => ?_
  obtain ⟨ρ, es, Fr, Hz, S, r, q⟩ := h
  exact q [] H Hz es (Ex.refl _) (fun z => by cases z) S rfl .nil r
end
end Pd
end
section
/-! Pd: new instances; a law's defs as a whole. -/
namespace Pd
open PySem L2 PyProof.Rows PySem.Spec
section
variable {X : Cx} {W : WX} {s sa sb : Bool} {p pos apos : Pos} {K : PySem.W.Frag} {σ : L2.St} {H Hz : Hp} {Q : VK} {a b : Expr} {fa : EF} {k np : Nat} {f : Addr} {cl : List RV → RC} {dfl : List D} {es : List Expr} {as : List Ar}
/-- the callee runs, what it raises wished for at the slots -/
theorem run_makeS {C : Addr} {CX : CXT} {fd : FuncData} {ps : List Str} {sp : Sp} {dvs : List V} {ds : List Value} {E : XK} {pins : List (Addr × Obj)} {σ : L2.St} {H : Hp} {s : Shared} {Q : VK} {us : List Value} {vs : List V} (M : Mk X.K C f) (F : FnOk X.prog X.w X.K X.mg X.base CX k f fd ps sp) (hr : Room (k + 1) X.A) (hb : Binds X.K fd ps ds) (hd : Vals dvs ds)
    (hx : PassesAt CX X σ E) (I : Inv X pins σ H s) (r : Vals vs us)
    (h : ∀ x dx, H x = none → H dx = none → dx ≠ x → sp (.ref x :: (vs ++ dvs)) (upd (upd H dx (.own x)) x (.ins C dx [])) (fun v H2 => v = .non ∧ Q (.ref x) H2) E) :
    wpAny (model X.prog X.w) X.A (call (.ref C) us) (EP X pins σ Q) X.xe s := by
  have hq := h (s.heap.objs.size + 1) s.heap.objs.size (I.hok.fresh (Nat.le_succ _)) (I.hok.fresh (Nat.le_refl _)) (Nat.ne_of_lt (Nat.lt_succ_self _))
  have I2 := Inv.made (C := C) I
  have r2 : Vals (V.ref (s.heap.objs.size + 1) :: (vs ++ dvs)) (Value.ref (s.heap.objs.size + 1) :: (us ++ ds)) := .cons rfl (r.append hd)
  have hl : (Value.ref (s.heap.objs.size + 1) :: us ++ ds).length = ps.length := by
    have e := r2.length
    rw [F.len _ _ _ _ hq] at e
    exact e.symm
  refine wpAny_call (make_map (f := f) I.kIn M.makes M.init (beq_iff_eq.mp M.fn) (codeAny_mono (F.run _ X.stack _ _ ⟨Value.ref (s.heap.objs.size + 1) :: us, []⟩ (Value.ref (s.heap.objs.size + 1) :: (us ++ ds)) _ _ E (hr.make C us [])
    (I2.env0.make C us []) (hb _ (Value.ref (s.heap.objs.size + 1) :: us) I2.kIn hl) r2 hq) fun r s' hq' => ?_))
  cases r with
  | error e => exact hx pins _ _ e s' I2 hq'
  | ok fl =>
    cases fl with
    | ret u =>
      obtain ⟨v, H', I3, rv, ev, q3⟩ := I2.after hq'
      subst ev
      exact ⟨rv, ⟨V.ref (s.heap.objs.size + 1), H', I3, rfl, q3⟩⟩
    | next => exact False.elim hq'
    | brk => exact False.elim hq'
    | cont => exact False.elim hq'
def tMakeS (C : Addr) (sp : Sp) (dvs : List V) (E : L2.St → XK) (t : TA) : TE := fun σ H Q => t σ H fun vs H1 => ∀ x dx, H1 x = none → H1 dx = none → dx ≠ x →
  sp (.ref x :: (vs ++ dvs)) (upd (upd H1 dx (.own x)) x (.ins C dx [])) (fun v H2 => v = .non ∧ Q (.ref x) H2) (E σ)
theorem pe_makeS {C : Addr} {x : Str} {CX : CXT} {fd : FuncData} {ps : List Str} {sp : Sp} {dvs : List V} {ds : List Value} {E : L2.St → XK} {t : TA} (M : Mk X.K C f) (F : FnOk X.prog X.w X.K X.mg X.base CX k f fd ps sp) (hr : Room (k + 1) X.A) (hg : Gl X x) (hm : X.mg x = some (.ref C)) (hb : Binds X.K fd ps ds) (hd : Vals dvs ds) (hx : ∀ σ, PassesAt CX X σ (E σ))
    (ha : PA X (a :: es) t) (hdb : (x == ("__debug__" : Str)) = false := by decide) (he : starEach (a :: es) X.env = (false, eval a X.env) :: starEach es X.env := by rfl) (hpl : (backTo pos (starEach es X.env)).any (·.1) = false := by rfl) :
    PE X (.Call (.Name x p) (a :: es) [] pos) (tMakeS C sp dvs E t) := by
  refine ⟨fun pins s σ H Q I h => ?_⟩
  refine wpAny_Call_Name_kw (ld_glob I hg hm ?_ hdb)
  refine PySem.W.callWith_K (h₀ := X.base) I.ok.mod.kin M.kp (thn (ha.run pos pins s σ H _ I h) fun us s1 ⟨vs, H1, I1, r, q⟩ => ⟨I1.kIn, ?_⟩) he hpl
  exact run_makeS M F hr hb hd (hx σ) I1 r q
theorem pe_makeS0 {C : Addr} {x : Str} {CX : CXT} {fd : FuncData} {ps : List Str} {sp : Sp} {dvs : List V} {ds : List Value} {E : L2.St → XK} (M : Mk X.K C f) (F : FnOk X.prog X.w X.K X.mg X.base CX k f fd ps sp) (hr : Room (k + 1) X.A) (hg : Gl X x) (hm : X.mg x = some (.ref C)) (hb : Binds X.K fd ps ds) (hd : Vals dvs ds) (hx : ∀ σ, PassesAt CX X σ (E σ))
    (hdb : (x == ("__debug__" : Str)) = false := by decide) : PE X (.Call (.Name x p) [] [] pos) (tMakeS C sp dvs E tNil) := by
  refine ⟨fun pins s σ H Q I h => ?_⟩
  refine wpAny_Call_Name_kw (ld_glob I hg hm ?_ hdb)
  exact PySem.W.callWith_K0 I.kIn M.kp (run_makeS (us := []) M F hr hb hd (hx σ) I .nil h)
/-- what __init__ gives back -/
def made (y : RV) (os : List Slot) (k : Nat → D → List Slot → RE) : RE := match os with
  | some (m, d) :: os => if y.b = false ∧ isNon y.d = true then k m d os else .stuck
  | _ => .stuck
/-- C(..): m levels of the new instance are owned -/
def eMake (C : Nm) (m : Nat) (cl : List RV → RC) (dfl : List D) (as : List Ar) : EF := fun ρ => (evA as ρ).bind fun xs ρ1 => match cl (⟨m + 1, false, .ins C [] []⟩ :: (xs ++ dfl.map pureV)) with
  | .ok y os => made y os fun m' d os' => .ok ⟨m', false, d⟩ (giveBack as os' ρ1)
  | .exc C ns ys => .exc C ns ys ρ1
  | .stuck => .stuck
theorem outE_append {ws : List V} : ∀ {vs : List V} {os : List Slot}, ∃ more, outE (vs ++ ws) os = outE vs os ++ more
  | [], os => ⟨outE ws os, by cases os <;> rfl⟩
  | v :: vs, [] => ⟨[], rfl⟩
  | v :: vs, o :: os => by
    obtain ⟨more, e⟩ := outE_append (ws := ws) (vs := vs) (os := os)
    cases o with
    | none => exact ⟨more, e⟩
    | some md => exact ⟨more, congrArg (List.cons _) e⟩
theorem back_end {e : Ent} {vs dvs : List V} {os : List Slot} {ρ1 : Vr} {es1 Fr : List Ent} (S : Slots σ ρ1 es1) (t : Lent σ as vs) (r : R K (e :: (outE (vs ++ dvs) os ++ (es1 ++ Fr))) Hz H) : ∃ es', Slots σ (giveBack as os ρ1) es' ∧ R K (e :: (es' ++ Fr)) Hz H := by
  obtain ⟨more, em⟩ := outE_append (ws := dvs) (vs := vs) (os := os)
  rw [em, List.append_assoc] at r
  have r2 : R K (outE vs os ++ (es1 ++ (e :: Fr))) Hz H := by
    have r3 : R K (more ++ (e :: (outE vs os ++ (es1 ++ Fr)))) Hz H := by
      refine r.perm ?_
      refine List.Perm.trans ?_ List.perm_middle.symm
      refine List.Perm.cons _ ?_
      rw [← List.append_assoc, ← List.append_assoc more]
      exact List.perm_append_comm.append_right _
    refine r3.right.perm ?_
    rw [← List.append_assoc, ← List.append_assoc]
    exact List.perm_middle.symm
  obtain ⟨es', S', r4⟩ := back_core t S r2
  exact ⟨es', S', r4.swap4⟩
theorem make_fin {C : Nm} {m : Nat} {vs dvs : List V} {xs : List RV} {ρ1 : Vr} {es1 Fr : List Ent} (S : Slots σ ρ1 es1) (l : vs.length = xs.length) (t : Lent σ as vs) (r : R K (zipE vs xs ++ (es1 ++ Fr)) Hz H)
    (hd : RpL K Hz dvs dfl) (hnp : ∀ ys, cl ys ≠ .stuck → ys.length = np) (q : RetE K Fr σ Hz H false W (match cl (⟨m + 1, false, .ins C [] []⟩ :: (xs ++ dfl.map pureV)) with
      | .ok y os => made y os fun m' d os' => .ok ⟨m', false, d⟩ (giveBack as os' ρ1)
      | .exc C ns ys => .exc C ns ys ρ1
      | .stuck => .stuck) Q) : ∀ x dx, H x = none → H dx = none → dx ≠ x → spF K np cl (.ref x :: (vs ++ dvs)) (upd (upd H dx (.own x)) x (.ins (ca K C) dx [])) (fun v H2 => v = .non ∧ Q (.ref x) H2) (WE W σ) := by
  intro x dx hx hdx ne
  have hns : cl (⟨m + 1, false, .ins C [] []⟩ :: (xs ++ dfl.map pureV)) ≠ .stuck := fun e => by rw [e] at q; exact q.elim
  have hl : (V.ref x :: (vs ++ dvs)).length = (⟨m + 1, false, .ins C [] []⟩ :: (xs ++ dfl.map pureV)).length := by
    rw [List.length_cons, List.length_cons, List.length_append, List.length_append, List.length_map, l, hd.length]
  refine ⟨⟨m + 1, false, .ins C [] []⟩ :: (xs ++ dfl.map pureV), es1 ++ Fr, Hz, by rw [hl]; exact hnp _ hns, hl, ?_, ?_⟩
  · show R K (⟨.ref x, m + 1, .ins C [] []⟩ :: (zipE (vs ++ dvs) (xs ++ dfl.map pureV) ++ (es1 ++ Fr))) Hz _
    have r1 : R K (zipE (vs ++ dvs) (xs ++ dfl.map pureV) ++ (es1 ++ Fr)) Hz H := by
      rw [zipE_append l, List.append_assoc]
      have r2 : R K (zipE dvs (dfl.map pureV) ++ (zipE vs xs ++ (es1 ++ Fr))) Hz H := r.putL hd
      refine r2.perm ?_
      rw [← List.append_assoc (zipE dvs _), ← List.append_assoc (zipE vs xs)]
      exact List.perm_append_comm.append_right _
    have r3 := r1.ext (Ex.new (o := .own x) hdx)
    have hx2 : upd H dx (.own x) x = none := by rw [upd_ne ne.symm]; exact hx
    refine R.alloc (fs := []) (m := m) r3 hx2 fun A hA => ?_
    cases hA
    exact .ins (ns := []) (vs := []) (dx := dx) upd_same rfl .nil
  · cases e : cl (⟨m + 1, false, .ins C [] []⟩ :: (xs ++ dfl.map pureV)) with
    | stuck => exact absurd e hns
    | exc C' ns ys =>
      rw [e] at q
      exact fun dx' H' Hz' ez ea r' => q dx' H' Hz' es1 ez ea S r'
    | ok y os =>
      rw [e] at q
      dsimp only at q ⊢
      unfold made at q
      split at q
      · rename_i m' d os'
        split at q
        · rename_i c
          obtain ⟨c1, c2⟩ := c
          refine ⟨c1, fun v H' Hz' ez r' => ?_⟩
          have ev : v = .non := by
            have := R.imm (by rw [isNon_eq c2]; rfl) r'
            rw [isNon_eq c2] at this
            cases this; rfl
          refine ⟨ev, ?_⟩
          obtain ⟨es', S', r4⟩ := back_end (e := ⟨.ref x, m', d⟩) S t r'.tail
          exact q (.ref x) H' Hz' es' ez (fun z => by cases z) S' (.of rfl r4)
        · exact q.elim
      · exact q.elim
theorem se_make {x : Str} (C : Nm) (m : Nat) (M : Mk X.K (ca X.K C) f) (F : Callee X k f np cl dfl) (hm : X.mg x = some (.ref (ca X.K C))) (hr : Room (k + 1) X.A) (tk : Takes X W) (ha : SA X W false (a :: es) as) (hg : Gl X x := by rfl) (hdb : (x == ("__debug__" : Str)) = false := by decide)
    (he : starEach (a :: es) X.env = (false, eval a X.env) :: starEach es X.env := by rfl) (hpl : (backTo pos (starEach es X.env)).any (·.1) = false := by rfl) : SE X W false (.Call (.Name x p) (a :: es) [] pos) (eMake C m cl dfl as) := by
  obtain ⟨fd, ps, dvs, ds, F1, hb, hd, hz⟩ := F.ex
  refine peImp (pe_makeS M F1 hr hg hm hb hd (passAt tk) ha hdb he hpl) fun σ H Q q => ?_
  exact oneA q id fun vs xs ρ1 es1 Fr Hz1 H1 S l t r q => make_fin S l t r (hz _) F.np q
theorem se_make0 {x : Str} (C : Nm) (m : Nat) (M : Mk X.K (ca X.K C) f) (F : Callee X k f np cl dfl) (hm : X.mg x = some (.ref (ca X.K C))) (hr : Room (k + 1) X.A) (tk : Takes X W) (hg : Gl X x := by rfl) (hdb : (x == ("__debug__" : Str)) = false := by decide) : SE X W false (.Call (.Name x p) [] [] pos) (eMake C m cl dfl []) := by
  obtain ⟨fd, ps, dvs, ds, F1, hb, hd, hz⟩ := F.ex
  refine peImp (pe_makeS0 M F1 hr hg hm hb hd (passAt tk) hdb) fun σ H Q q => ?_
  obtain ⟨ρ, es, Fr, Hz, S, r, q⟩ := q
  exact make_fin (vs := []) (xs := []) (as := []) S rfl .nil r (hz _) F.np q
/-- C.m(..), the def read off the class -/
structure UOk (K : PySem.W.Frag) (C g : Addr) (m : Str) : Prop where
  ga : PySem.W.specialIn K (.ref C) "__getattribute__" = some (some (.builtin "type.__getattribute__"))
  rd : ∃ mc, PySem.W.readsIn K C mc = true ∧ PySem.W.findCls K (.ref C) mc m = some (.val (.ref g))
  kp : PySem.W.keepIn K (.ref g) = true
theorem se_umeth {x m : Str} {C g : Addr} {pl : Sem Bool} (F : Callee X k g np cl dfl) (hu : UOk X.K C g m) (hm : X.mg x = some (.ref C)) (hr : Room k X.A) (tk : Takes X W) (ha : SA X W false (a :: es) as) (hg : Gl X x := by rfl) (hdb : (x == ("__debug__" : Str)) = false := by decide)
    (hst : starEach (a :: es) X.env = (false, eval a X.env) :: starEach es X.env := by rfl) (hpl : (backTo pos (starEach es X.env)).any (·.1) = false := by rfl)
    (ht : eval (.Call (.Attribute (.Name x p) m apos) (a :: es) [] pos) X.env = (do
      let ov ← eval (.Name x p) X.env
      standAt apos.atName
      let (f, first) ← holding [ov] (getMethod ov m pl)
      callWith pos f first (backTo pos (starEach (a :: es) X.env)) (backToKw pos (keywordEach [] X.env))) := by rfl) : SE X W false (.Call (.Attribute (.Name x p) m apos) (a :: es) [] pos) (eCall cl dfl as) := by
  obtain ⟨fd, ps, dvs, ds, F1, hb, hd, hz⟩ := F.ex
  obtain ⟨mc, rd, at_⟩ := hu.rd
  have pe : PE X (.Call (.Attribute (.Name x p) m apos) (a :: es) [] pos) (tCallSD (spF X.K np cl) dvs (WE W) (tA X.K W false as)) := by
    refine ⟨fun pins s σ H Q I h => ?_⟩
    refine PySem.W.methodCall_KW (pl := pl) (ld_glob I hg hm ?_ hdb) ht
    refine PySem.W.method_cls I.kIn hu.ga (PySem.W.cls_value I.kIn rd at_ rfl ?_)
    refine PySem.W.callWith_K (first := []) (h₀ := X.base) I.ok.mod.kin hu.kp (thn (ha.run pos pins _ σ H _ (I.tok _) h) fun us s1 ⟨vs, H1, I1, r, q⟩ => ⟨I1.kIn, ?_⟩) hst hpl
    exact run_fnSD F1 hr hb hd (passAt tk σ) I1 r q
  refine peImp pe fun σ H Q q => ?_
  exact oneA q id fun vs xs ρ1 es1 Fr Hz1 H1 S l t r q => call_fin S l t r (hz _) F.np q
end
end Pd
end
section
/-! Pd: built-in functions. -/
namespace Pd
open PySem L2 PyProof.Rows PySem.Spec
/-- one-place functions on values -/
abbrev Op1 := RV → Option RV
def e1 (op : Op1) (fa : EF) : EF := fun ρ => (fa ρ).bind fun x ρ1 => opE (op x) ρ1
def Ok1 (K : PySem.W.Frag) (r : List V → Hp → VK → Prop) (op : Op1) : Prop := ∀ (v : V) (x z : RV) (es : List Ent) (Hz H : Hp) (Q : VK), R K es Hz H → View K Hz H v x → op x = some z →
  (∀ u H' Hz', Ex Hz Hz' → Ex H H' → RVok K Hz' H' u z es → Q u H') → r [v] H Q
def Ok2 (K : PySem.W.Frag) (r : List V → Hp → VK → Prop) (op : Op2) : Prop := ∀ (v w : V) (x y z : RV) (es : List Ent) (Hz H : Hp) (Q : VK), R K es Hz H → View K Hz H v x → View K Hz H w y → op x y = some z →
  (∀ u H' Hz', Ex Hz Hz' → Ex H H' → RVok K Hz' H' u z es → Q u H') → r [v, w] H Q
section
variable {X : Cx} {W : WX} {s sa sb : Bool} {p pos apos : Pos} {K : PySem.W.Frag} {σ : L2.St} {H Hz : Hp} {Q : VK} {a b e : Expr} {fa fb : EF} {r : List V → Hp → VK → Prop} {op : Op1} {op2 : Op2} {id : String} {x : Str}
theorem b1_core (ok : Ok1 K r op) (q : tE K W s (e1 op fa) σ H Q) (hs : s = true → sa = true) : tCB r (tCons (tE K W sa fa) tNil) σ H Q := by
  refine one' (fa := fa) q hs fun v x ρ1 es1 Fr Hz1 H1 S o q => ?_
  obtain ⟨z, hz⟩ := opE_some q
  exact ok v x z _ Hz1 H1 Q o.rest o.view hz (fin2 hz (Ex.refl _) (fun _ => Ex.refl _) S q)
theorem b2_core (ok : Ok2 K r op2) (q : tE K W s (e2 sb op2 fa fb) σ H Q) (hs : s = true → sa = true ∧ sb = true) : tCB r (tCons (tE K W sa fa) (tCons (tE K W sb fb) tNil)) σ H Q := by
  refine two q hs fun v w x y ρ2 es2 Fr Hz2 H2 Hz0 S2 r2 v1 v2 ez k q2 => ?_
  obtain ⟨z, hz⟩ := opE_some q2
  exact ok v w x y z _ Hz2 H2 Q r2 v1 v2 hz (fin2 hz ez k S2 q2)
theorem se_b1 (hc : CallR X (.builtin id) r) (ok : Ok1 X.K r op) (ha : SE X W sa e fa) (hm : X.mg x = none) (hv : bootBuiltins x = some (.builtin id)) (hs : s = true → sa = true := by first | exact fun _ => rfl | (intro z; cases z)) (hg : Gl X x := by rfl) (hn : x ≠ "__name__" := by decide) (hdb : (x == ("__debug__" : Str)) = false := by decide)
    (hst : starEach [e] X.env = (false, eval e X.env) :: starEach [] X.env := by rfl) : SE X W s (.Call (.Name x p) [e] [] pos) (e1 op fa) :=
  peImp (pe_callB hc hg hm hv (pa_cons ha pa_nil hst) hn hdb hst rfl) fun σ H Q q => b1_core ok q hs
theorem se_t1 (hc : CallR X (.type id) r) (ok : Ok1 X.K r op) (ha : SE X W sa e fa) (hm : X.mg x = none) (hv : bootBuiltins x = some (.type id)) (hs : s = true → sa = true := by first | exact fun _ => rfl | (intro z; cases z)) (hg : Gl X x := by rfl) (hn : x ≠ "__name__" := by decide) (hdb : (x == ("__debug__" : Str)) = false := by decide)
    (hst : starEach [e] X.env = (false, eval e X.env) :: starEach [] X.env := by rfl) : SE X W s (.Call (.Name x p) [e] [] pos) (e1 op fa) :=
  peImp (pe_callTy hc hg hm hv (pa_cons ha pa_nil hst) hn hdb hst rfl) fun σ H Q q => b1_core ok q hs
theorem se_b2 (hc : CallR X (.builtin id) r) (ok : Ok2 X.K r op2) (ha : SE X W sa a fa) (hb : SE X W sb b fb) (hm : X.mg x = none) (hv : bootBuiltins x = some (.builtin id)) (hs : s = true → sa = true ∧ sb = true := by first | exact fun _ => ⟨rfl, rfl⟩ | (intro z; cases z)) (hg : Gl X x := by rfl) (hn : x ≠ "__name__" := by decide) (hdb : (x == ("__debug__" : Str)) = false := by decide)
    (hst : starEach [a, b] X.env = (false, eval a X.env) :: starEach [b] X.env := by rfl) (hst2 : starEach [b] X.env = (false, eval b X.env) :: starEach [] X.env := by rfl) (hpl : (backTo pos (starEach [b] X.env)).any (·.1) = false := by rfl) : SE X W s (.Call (.Name x p) [a, b] [] pos) (e2 sb op2 fa fb) :=
  peImp (pe_callB hc hg hm hv (pa_cons ha (pa_cons hb pa_nil hst2) hst) hn hdb hst hpl) fun σ H Q q => b2_core ok q hs

/-! ### lists of whole numbers, of truths -/
def dInts : List D → Option (List Int)
  | [] => some []
  | .int i :: ds => (dInts ds).map (i :: ·)
  | _ => none
def bls : List D → Option (List Bool)
  | [] => some []
  | .bl i :: ds => (bls ds).map (i :: ·)
  | _ => none
theorem ints_ok {m : Nat} : ∀ {vs : List V} {ds : List D} {A : List Addr} {ns : List Int}, OwnL K Hz H m vs ds A → dInts ds = some ns → vs = ns.map V.int
  | _, _, _, ns, .nil, e => by simp [dInts] at e; subst e; rfl
  | _, _, _, ns, .cons (d := d) h r, e => by
    cases d <;> simp [dInts] at e
    obtain ⟨ms, h1, rfl⟩ := e
    have hv := (h.imm rfl).2
    cases hv
    rw [List.map_cons, ints_ok r h1]
theorem bls_ok {m : Nat} : ∀ {vs : List V} {ds : List D} {A : List Addr} {ns : List Bool}, OwnL K Hz H m vs ds A → bls ds = some ns → vs = ns.map V.bl
  | _, _, _, ns, .nil, e => by simp [bls] at e; subst e; rfl
  | _, _, _, ns, .cons (d := d) h r, e => by
    cases d <;> simp [bls] at e
    obtain ⟨ms, h1, rfl⟩ := e
    have hv := (h.imm rfl).2
    cases hv
    rw [List.map_cons, bls_ok r h1]
@[simp] theorem ints_map (ns : List Int) : dInts (ns.map .int) = some ns := by
  induction ns with
  | nil => rfl
  | cons n ns ih => simp [dInts, ih]
@[simp] theorem bls_map (ns : List Bool) : bls (ns.map .bl) = some ns := by
  induction ns with
  | nil => rfl
  | cons n ns ih => simp [bls, ih]
/-- what is a list -/
def lsOf : D → Option (List D)
  | .lst ds => some ds
  | .frl ds => some ds
  | _ => none
theorem ls_ok {v : V} {x : RV} {ds : List D} (ex : Ex Hz H) (h : View K Hz H v x) (e : lsOf x.d = some ds) : ∃ q vs A m, v = .ref q ∧ SqL K H q vs ∧ OwnL K Hz H m vs ds A := by
  unfold lsOf at e
  split at e
  · rename_i ds' e1
    cases e
    obtain ⟨q, vs, A, rfl, h1, ow⟩ := h.lst ex e1
    exact ⟨q, vs, A, _, rfl, .of h1, ow⟩
  · rename_i ds' e1
    cases e
    obtain ⟨q, vs, rfl, h1, l⟩ := h.frl e1
    exact ⟨q, vs, [], 0, rfl, ex.sql h1, OwnL.of_zero 0 l⟩
  · cases e
def oLen : Op1 := fun x => match x.d with
  | .lst ds => some (pureV (.int ds.length))
  | .frl ds => some (pureV (.int ds.length))
  | .tup ds => some (pureV (.int ds.length))
  | .dk ks _ => some (pureV (.int ks.length))
  | .dt ks _ => some (pureV (.int ks.length))
  | .str z => if z.length ≤ BIG then some (pureV (.int z.length)) else none
  | _ => none
def rLenA (K : PySem.W.Frag) : List V → Hp → VK → Prop := fun xs H Q => (∃ x n, xs = [x] ∧ LenV K x H n ∧ Q (.int n) H) ∨ (∃ a kvs, xs = [V.ref a] ∧ H a = some (.dK kvs) ∧ Q (.int kvs.length) H) ∨ rLenT xs H Q
theorem call_lenA : CallR X (.builtin "len") (rLenA X.K) := call_len.or (call_lenD.or call_len_dT)
theorem ok_len : Ok1 K (rLenA K) oLen := by
  intro v x z es Hz H Q r hx hz q
  unfold oLen at hz
  split at hz
  · rename_i ds e
    cases hz
    obtain ⟨a, vs, A, rfl, h1, ow⟩ := hx.lst r.ex e
    refine .inl ⟨_, ds.length, rfl, .inl ⟨vs, .of h1, ow.length.symm⟩, q _ H Hz (Ex.refl _) (Ex.refl _) (.pure (.int _) r)⟩
  · rename_i ds e
    cases hz
    obtain ⟨a, vs, rfl, h1, l⟩ := hx.frl e
    refine .inl ⟨_, ds.length, rfl, .inl ⟨vs, r.ex.sql h1, l.length.symm⟩, q _ H Hz (Ex.refl _) (Ex.refl _) (.pure (.int _) r)⟩
  · rename_i ds e
    cases hz
    obtain ⟨a, vs, rfl, h1, l⟩ := hx.tup e
    refine .inl ⟨_, ds.length, rfl, .inr ⟨vs, .of (r.ex _ _ h1), l.length.symm⟩, q _ H Hz (Ex.refl _) (Ex.refl _) (.pure (.int _) r)⟩
  · rename_i ks ds e
    cases hz
    obtain ⟨a, vs, A, rfl, h1, l, ow⟩ := hx.dk r.ex e
    refine .inr (.inl ⟨a, _, rfl, h1, ?_⟩)
    rw [List.length_zip, ← l, Nat.min_self]
    exact q _ H Hz (Ex.refl _) (Ex.refl _) (.pure (.int _) r)
  · rename_i ks ds e
    cases hz
    obtain ⟨a, vs, A, rfl, h1, l, ow⟩ := hx.dt r.ex e
    refine .inr (.inr ⟨a, _, rfl, h1, ?_⟩)
    rw [List.length_zip, ← l, Nat.min_self]
    exact q _ H Hz (Ex.refl _) (Ex.refl _) (.pure (.int _) r)
  · rename_i t e
    split at hz
    · rename_i c
      cases hz
      refine .inl ⟨_, t.length, rfl, ?_, q _ H Hz (Ex.refl _) (Ex.refl _) (.pure (.int _) r)⟩
      rw [hx.str e]
      exact ⟨big_line c, rfl⟩
    · cases hz
  · cases hz
def oAbs : Op1 := fun x => match x.d with
  | .int i => some (pureV (.int (if i < 0 then -i else i)))
  | _ => none
theorem ok_abs : Ok1 K (fun xs H Q => ∃ i, xs = [.int i] ∧ Q (.int (if i < 0 then -i else i)) H) oAbs := by
  intro v x z es Hz H Q r hx hz q
  unfold oAbs at hz
  split at hz
  · rename_i i e
    cases hz
    exact ⟨i, by rw [hx.int e], q _ H Hz (Ex.refl _) (Ex.refl _) (.pure (.int _) r)⟩
  · cases hz
def oSum : Op1 := fun x => (lsOf x.d).bind fun ds => (dInts ds).map fun ns => pureV (.int ns.sum)
theorem ok_sum : Ok1 K (rSum K) oSum := by
  intro v x z es Hz H Q r hx hz q
  obtain ⟨ds, e1, hz⟩ := Option.bind_eq_some_iff.mp hz
  obtain ⟨ns, e2, rfl⟩ := Option.map_eq_some_iff.mp hz
  obtain ⟨a, vs, A, m, rfl, h1, ow⟩ := ls_ok r.ex hx e1
  exact ⟨a, ns, rfl, by rw [← ints_ok ow e2]; exact h1, q _ H Hz (Ex.refl _) (Ex.refl _) (.pure (.int _) r)⟩
def oMax : Op1 := fun x => (lsOf x.d).bind fun ds => (dInts ds).bind fun ns => ns.max?.map fun m => pureV (.int m)
def oMin : Op1 := fun x => (lsOf x.d).bind fun ds => (dInts ds).bind fun ns => ns.min?.map fun m => pureV (.int m)
theorem ok_max : Ok1 K (rMax K) oMax := by
  intro v x z es Hz H Q r hx hz q
  obtain ⟨ds, e1, hz⟩ := Option.bind_eq_some_iff.mp hz
  obtain ⟨ns, e2, hz⟩ := Option.bind_eq_some_iff.mp hz
  obtain ⟨m, e3, rfl⟩ := Option.map_eq_some_iff.mp hz
  obtain ⟨a, vs, A, j, rfl, h1, ow⟩ := ls_ok r.ex hx e1
  obtain ⟨k1, k2⟩ := List.max?_eq_some_iff.mp e3
  refine ⟨a, ns, rfl, by rw [← ints_ok ow e2]; exact h1, List.length_pos_of_mem k1, fun m' h2 h3 => ?_⟩
  have : m' = m := Int.le_antisymm (k2 _ h2) (h3 _ k1)
  subst this
  exact q _ H Hz (Ex.refl _) (Ex.refl _) (.pure (.int _) r)
theorem ok_min : Ok1 K (rMin K) oMin := by
  intro v x z es Hz H Q r hx hz q
  obtain ⟨ds, e1, hz⟩ := Option.bind_eq_some_iff.mp hz
  obtain ⟨ns, e2, hz⟩ := Option.bind_eq_some_iff.mp hz
  obtain ⟨m, e3, rfl⟩ := Option.map_eq_some_iff.mp hz
  obtain ⟨a, vs, A, j, rfl, h1, ow⟩ := ls_ok r.ex hx e1
  obtain ⟨k1, k2⟩ := List.min?_eq_some_iff.mp e3
  refine ⟨a, ns, rfl, by rw [← ints_ok ow e2]; exact h1, List.length_pos_of_mem k1, fun m' h2 h3 => ?_⟩
  have : m' = m := Int.le_antisymm (h3 _ k1) (k2 _ h2)
  subst this
  exact q _ H Hz (Ex.refl _) (Ex.refl _) (.pure (.int _) r)
def oMax2 : Op2 := fun x y => match x.d, y.d with
  | .int i, .int j => some (pureV (.int (if j > i then j else i)))
  | _, _ => none
def oMin2 : Op2 := fun x y => match x.d, y.d with
  | .int i, .int j => some (pureV (.int (if j < i then j else i)))
  | _, _ => none
theorem ok_max2 : Ok2 K (fun xs H Q => ∃ i j, xs = [.int i, .int j] ∧ Q (.int (if j > i then j else i)) H) oMax2 := by
  intro v w x y z es Hz H Q r hx hy hz q
  unfold oMax2 at hz
  split at hz
  · rename_i i j e1 e2
    cases hz
    exact ⟨i, j, by rw [hx.int e1, hy.int e2], q _ H Hz (Ex.refl _) (Ex.refl _) (.pure (.int _) r)⟩
  · cases hz
theorem ok_min2 : Ok2 K (fun xs H Q => ∃ i j, xs = [.int i, .int j] ∧ Q (.int (if j < i then j else i)) H) oMin2 := by
  intro v w x y z es Hz H Q r hx hy hz q
  unfold oMin2 at hz
  split at hz
  · rename_i i j e1 e2
    cases hz
    exact ⟨i, j, by rw [hx.int e1, hy.int e2], q _ H Hz (Ex.refl _) (Ex.refl _) (.pure (.int _) r)⟩
  · cases hz
def oAny : Op1 := fun x => (lsOf x.d).bind fun ds => (bls ds).map fun ns => pureV (.bl (ns.any _root_.id))
def oAll : Op1 := fun x => (lsOf x.d).bind fun ds => (bls ds).map fun ns => pureV (.bl (ns.all _root_.id))
theorem ok_any : Ok1 K (rAny K) oAny := by
  intro v x z es Hz H Q r hx hz q
  obtain ⟨ds, e1, hz⟩ := Option.bind_eq_some_iff.mp hz
  obtain ⟨ns, e2, rfl⟩ := Option.map_eq_some_iff.mp hz
  obtain ⟨a, vs, A, m, rfl, h1, ow⟩ := ls_ok r.ex hx e1
  exact ⟨a, ns, rfl, by rw [← bls_ok ow e2]; exact h1, q _ H Hz (Ex.refl _) (Ex.refl _) (.pure (.bl _) r)⟩
theorem ok_all : Ok1 K (rAll K) oAll := by
  intro v x z es Hz H Q r hx hz q
  obtain ⟨ds, e1, hz⟩ := Option.bind_eq_some_iff.mp hz
  obtain ⟨ns, e2, rfl⟩ := Option.map_eq_some_iff.mp hz
  obtain ⟨a, vs, A, m, rfl, h1, ow⟩ := ls_ok r.ex hx e1
  exact ⟨a, ns, rfl, by rw [← bls_ok ow e2]; exact h1, q _ H Hz (Ex.refl _) (Ex.refl _) (.pure (.bl _) r)⟩
/-- the items in order -/
def sortI (ns : List Int) : List Int := ns.mergeSort (fun a b => decide (a ≤ b))
theorem sortI_perm (ns : List Int) : (sortI ns).Perm ns := List.mergeSort_perm _ _
theorem sortI_sorted (ns : List Int) : (sortI ns).Pairwise (· ≤ ·) := by
  have := List.pairwise_mergeSort (le := fun a b : Int => decide (a ≤ b)) (fun a b c h1 h2 => by simp at *; omega) (fun a b => by simp; omega) ns
  exact this.imp fun h => by simpa using h
theorem sortI_uniq {ns ns' : List Int} (p : ns'.Perm ns) (h : ns'.Pairwise (· ≤ ·)) : ns' = sortI ns :=
  List.Perm.eq_of_pairwise (fun a b _ _ h1 h2 => Int.le_antisymm h1 h2) h (sortI_sorted ns) (p.trans (sortI_perm ns).symm)
def oSorted : Op1 := fun x => (lsOf x.d).bind fun ds => (dInts ds).map fun ns => ⟨1, false, .lst ((sortI ns).map .int)⟩
theorem rpl_ints : ∀ ns : List Int, RpL K Hz (ns.map V.int) (ns.map D.int)
  | [] => .nil
  | n :: ns => .cons (.int n) (rpl_ints ns)
theorem ok_sorted : Ok1 K (rSortedI K) oSorted := by
  intro v x z es Hz H Q r hx hz q
  obtain ⟨ds, e1, hz⟩ := Option.bind_eq_some_iff.mp hz
  obtain ⟨ns, e2, rfl⟩ := Option.map_eq_some_iff.mp hz
  obtain ⟨a, vs, A, m, rfl, h1, ow⟩ := ls_ok r.ex hx e1
  refine ⟨a, ns, rfl, by rw [← ints_ok ow e2]; exact h1, fun ns' p h2 h3 hp => ?_⟩
  rw [sortI_uniq h2 h3]
  exact q _ _ Hz (Ex.refl _) (Ex.new hp) (new_lst r hp (rpl_ints _))
/-- list(x), tuple(x) -/
def oList : Op1 := fun x => match x.d with
  | .lst ds => if x.q ≤ 1 then some ⟨1, false, .lst ds⟩ else none
  | .frl ds => some ⟨1, false, .lst ds⟩
  | .tup ds => some ⟨1, false, .lst ds⟩
  | _ => none
def oTuple : Op1 := fun x => match x.d with
  | .lst ds => if x.q ≤ 1 then some (pureV (.tup ds)) else none
  | .frl ds => some (pureV (.tup ds))
  | .tup ds => some (pureV (.tup ds))
  | _ => none
theorem OwnL.low {m : Nat} {vs : List V} {ds : List D} {A : List Addr} {q : Nat} (c : q ≤ 1) (e : m = q - 1) (h : OwnL K Hz H m vs ds A) : RpL K Hz vs ds := by
  have : m = 0 := by omega
  subst this
  exact h.zero.2
theorem ok_list : Ok1 K (fun xs H Q => ∃ p ys, xs = [.ref p] ∧ (SqL K H p ys ∨ SqT K H p ys) ∧ ∀ l, H l = none → Q (.ref l) (upd H l (.lst ys))) oList := by
  intro v x z es Hz H Q r hx hz q
  unfold oList at hz
  split at hz
  · rename_i ds e
    split at hz
    · rename_i c
      cases hz
      obtain ⟨a, vs, A, rfl, h1, ow⟩ := hx.lst r.ex e
      exact ⟨a, vs, rfl, .inl (.of h1), fun l hl => q _ _ Hz (Ex.refl _) (Ex.new hl) (new_lst r hl (ow.low c rfl))⟩
    · cases hz
  · rename_i ds e
    cases hz
    obtain ⟨a, vs, rfl, h1, l⟩ := hx.frl e
    exact ⟨a, vs, rfl, .inl (r.ex.sql h1), fun p hl => q _ _ Hz (Ex.refl _) (Ex.new hl) (new_lst r hl l)⟩
  · rename_i ds e
    cases hz
    obtain ⟨a, vs, rfl, h1, l⟩ := hx.tup e
    exact ⟨a, vs, rfl, .inr (.of (r.ex _ _ h1)), fun p hl => q _ _ Hz (Ex.refl _) (Ex.new hl) (new_lst r hl l)⟩
  · cases hz
theorem ok_tuple : Ok1 K (fun xs H Q => ∃ p ys, xs = [.ref p] ∧ ((SqL K H p ys ∧ ∀ l, H l = none → Q (.ref l) (upd H l (.tup ys))) ∨ (SqT K H p ys ∧ Q (.ref p) H))) oTuple := by
  intro v x z es Hz H Q r hx hz q
  unfold oTuple at hz
  split at hz
  · rename_i ds e
    split at hz
    · rename_i c
      cases hz
      obtain ⟨a, vs, A, rfl, h1, ow⟩ := hx.lst r.ex e
      refine ⟨a, vs, rfl, .inl ⟨.of h1, fun l hl => ?_⟩⟩
      obtain ⟨e3, o3⟩ := new_tup r hl (ow.low c rfl)
      exact q _ _ _ e3 (Ex.new hl) o3
    · cases hz
  · rename_i ds e
    cases hz
    obtain ⟨a, vs, rfl, h1, l⟩ := hx.frl e
    refine ⟨a, vs, rfl, .inl ⟨r.ex.sql h1, fun p hl => ?_⟩⟩
    obtain ⟨e3, o3⟩ := new_tup r hl l
    exact q _ _ _ e3 (Ex.new hl) o3
  · rename_i ds e
    cases hz
    obtain ⟨a, vs, rfl, h1, l⟩ := hx.tup e
    exact ⟨a, vs, rfl, .inr ⟨.of (r.ex _ _ h1), q _ H Hz (Ex.refl _) (Ex.refl _) (.pure (.tup h1 l) r)⟩⟩
  · cases hz
def oInt : Op1 := fun x => match x.d with
  | .int i => some (pureV (.int i))
  | .bl k => some (pureV (.int (if k then 1 else 0)))
  | _ => none
theorem ok_int : Ok1 K (fun xs H Q => (∃ i, xs = [.int i] ∧ Q (.int i) H) ∨ ∃ k, xs = [.bl k] ∧ Q (.int (if k then 1 else 0)) H) oInt := by
  intro v x z es Hz H Q r hx hz q
  unfold oInt at hz
  split at hz
  · rename_i i e
    cases hz
    exact .inl ⟨i, by rw [hx.int e], q _ H Hz (Ex.refl _) (Ex.refl _) (.pure (.int _) r)⟩
  · rename_i i e
    cases hz
    exact .inr ⟨i, by rw [hx.bl e], q _ H Hz (Ex.refl _) (Ex.refl _) (.pure (.int _) r)⟩
  · cases hz
def oStrI : Op1 := fun x => match x.d with
  | .int i => if i.natAbs.log2 < 1920 then some (pureV (.str (toString i))) else none
  | _ => none
theorem ok_strI : Ok1 K (fun xs H Q => ∃ i, xs = [.int i] ∧ i.natAbs.log2 < 1920 ∧ Q (.str (toString i)) H) oStrI := by
  intro v x z es Hz H Q r hx hz q
  unfold oStrI at hz
  split at hz
  · rename_i i e
    split at hz
    · rename_i c
      cases hz
      exact ⟨i, by rw [hx.int e], c, q _ H Hz (Ex.refl _) (Ex.refl _) (.pure (.str _) r)⟩
    · cases hz
  · cases hz
/-- isinstance(x, T), T a built-in type -/
def tyD : D → Option String
  | .non => some "NoneType"
  | .bl _ => some "bool"
  | .int _ => some "int"
  | .str _ => some "str"
  | .lst _ => some "list"
  | .tup _ => some "tuple"
  | .dk _ _ => some "dict"
  | .dt _ _ => some "dict"
  | _ => none
theorem tyD_ok {v : V} {d : D} {t : String} (h : Rp K H v d) (e : tyD d = some t) : TyOf K H v (.type t) := by
  cases h <;> simp [tyD] at e <;> subst e
  · exact .non
  · exact .bl _
  · exact .int _
  · exact .str _
  · rename_i h _; exact .lst h
  · rename_i h _; exact .tup h
  · rename_i h _ _; exact .dK h
  · rename_i h _ _; exact .dT h
def oIsi (T : String) : Op1 := fun x => (tyD x.d).bind fun t => (kitB t T).map fun b => pureV (.bl b)
theorem se_isi {T : String} {tx : Str} {tp : Pos} (ha : SE X W sa a fa) (hm : X.mg "isinstance" = none) (hmt : X.mg tx = none) (hvt : bootBuiltins tx = some (.type T)) (hs : s = true → sa = true := by first | exact fun _ => rfl | (intro z; cases z)) (hg : Gl X "isinstance" := by rfl) (hgt : Gl X tx := by rfl) (hn : tx ≠ "__name__" := by decide) (hdb : (tx == ("__debug__" : Str)) = false := by decide)
    (hst : starEach [a, .Name tx tp] X.env = (false, eval a X.env) :: starEach [.Name tx tp] X.env := by rfl) (hst2 : starEach [.Name tx tp] X.env = (false, eval (.Name tx tp) X.env) :: starEach [] X.env := by rfl) (hpl : (backTo pos (starEach [.Name tx tp] X.env)).any (·.1) = false := by rfl) (hv : bootBuiltins "isinstance" = some (.builtin "isinstance") := by rfl) :
    SE X W s (.Call (.Name "isinstance" p) [a, .Name tx tp] [] pos) (e1 (oIsi T) fa) := by
  refine peImp (pe_callB call_isi hg hm hv (pa_cons ha (pa_cons (pe_bltn (v := .ty T) hgt hmt hvt rfl hn hdb) pa_nil hst2) hst) (by decide) (by decide) hst hpl) fun σ H Q q => ?_
  refine one' (fa := fa) q hs fun v x ρ1 es1 Fr Hz1 H1 S o q => ?_
  obtain ⟨z, hz⟩ := opE_some q
  have hz' := hz
  obtain ⟨t, e1, hz⟩ := Option.bind_eq_some_iff.mp hz
  obtain ⟨b, e2, rfl⟩ := Option.map_eq_some_iff.mp hz
  refine ⟨v, .ty T, .type t, .type T, b, rfl, .ty T, .base (tyD_ok (o.view.rp o.rest.ex) e1), kit_ty e2, ?_⟩
  exact fin2 hz' (Ex.refl _) (fun _ => Ex.refl _) S q _ H1 Hz1 (Ex.refl _) (Ex.refl _) (.pure (.bl _) o.rest)

/-! ### alike, unlike: data -/
mutual
def pyd : D → Option PyData
  | .non => some .none
  | .bl b => some (.bool b)
  | .int i => some (.int i)
  | .str x => some (.str x)
  | .lst ds => (pydL ds).map .list
  | .frl ds => (pydL ds).map .list
  | .tup ds => (pydL ds).map .tuple
  | _ => none
def pydL : List D → Option (List PyData)
  | [] => some []
  | d :: ds => (pyd d).bind fun p => (pydL ds).map (p :: ·)
end
mutual
theorem pyd_ok : ∀ {v : V} {d : D} {p : PyData}, Rp K H v d → pyd d = some p → Dp K H v p
  | _, _, _, .non, e => by simp [pyd] at e; subst e; exact .non
  | _, _, _, .bl b, e => by simp [pyd] at e; subst e; exact .bl b
  | _, _, _, .int i, e => by simp [pyd] at e; subst e; exact .int i
  | _, _, _, .str x, e => by simp [pyd] at e; subst e; exact .str x
  | _, _, _, .lst h r, e => by
    simp [pyd] at e
    obtain ⟨ps, h1, rfl⟩ := e
    exact .lst (.of h) (pydL_ok r h1)
  | _, _, _, .frl h r, e => by
    simp [pyd] at e
    obtain ⟨ps, h1, rfl⟩ := e
    exact .lst h (pydL_ok r h1)
  | _, _, _, .tup h r, e => by
    simp [pyd] at e
    obtain ⟨ps, h1, rfl⟩ := e
    exact .tup (.of h) (pydL_ok r h1)
  | _, _, _, .dk _ _ _, e => by simp [pyd] at e
  | _, _, _, .dt _ _ _, e => by simp [pyd] at e
  | _, _, _, .ins _ _ _, e => by simp [pyd] at e
  | _, _, _, .cls _, e => by simp [pyd] at e
  | _, _, _, .hole _, e => by simp [pyd] at e
  | _, _, _, .lkt _, e => by simp [pyd] at e
theorem pydL_ok : ∀ {vs : List V} {ds : List D} {ps : List PyData}, RpL K H vs ds → pydL ds = some ps → DpAll K H vs ps
  | _, _, _, .nil, e => by simp [pydL] at e; subst e; exact .nil
  | _, _, _, .cons h r, e => by
    obtain ⟨p, h1, e⟩ := Option.bind_eq_some_iff.mp e
    obtain ⟨ps, h2, rfl⟩ := Option.map_eq_some_iff.mp e
    exact .cons (pyd_ok h h1) (pydL_ok r h2)
end
def oEqD (neg : Bool) : Op2 := fun x y => (pyd x.d).bind fun p => (pyd y.d).bind fun q => if SeqAt.shaped p = true ∧ SeqAt.shaped q = true then some (pureV (.bl (PyData.eqv p q != neg))) else none
theorem ok_eqD : OpOk K (rEqD K) (oEqD false) := by
  intro v w x y z es Hz H Q r hx hy hz q
  obtain ⟨p1, e1, hz⟩ := Option.bind_eq_some_iff.mp hz
  obtain ⟨p2, e2, hz⟩ := Option.bind_eq_some_iff.mp hz
  split at hz
  · rename_i c
    cases hz
    refine ⟨p1, p2, pyd_ok (hx.rp r.ex) e1, pyd_ok (hy.rp r.ex) e2, c.1, c.2, ?_⟩
    have : (PyData.eqv p1 p2 != false) = PyData.eqv p1 p2 := by cases PyData.eqv p1 p2 <;> rfl
    rw [this] at q
    exact q _ H Hz (Ex.refl _) (Ex.refl _) (.pure (.bl _) r)
  · cases hz
theorem ok_neD : OpOk K (rNeD K) (oEqD true) := by
  intro v w x y z es Hz H Q r hx hy hz q
  obtain ⟨p1, e1, hz⟩ := Option.bind_eq_some_iff.mp hz
  obtain ⟨p2, e2, hz⟩ := Option.bind_eq_some_iff.mp hz
  split at hz
  · rename_i c
    cases hz
    refine ⟨p1, p2, pyd_ok (hx.rp r.ex) e1, pyd_ok (hy.rp r.ex) e2, c.1, c.2, ?_⟩
    have : (PyData.eqv p1 p2 != true) = !PyData.eqv p1 p2 := by cases PyData.eqv p1 p2 <;> rfl
    rw [this] at q
    exact q _ H Hz (Ex.refl _) (Ex.refl _) (.pure (.bl _) r)
  · cases hz

/-! ### in, not in: sequences of flat things -/
def fv : D → Option V
  | .non => some .non
  | .bl b => some (.bl b)
  | .int i => some (.int i)
  | .str x => some (.str x)
  | _ => none
def fvL : List D → Option (List V)
  | [] => some []
  | d :: ds => (fv d).bind fun v => (fvL ds).map (v :: ·)
theorem fv_ok {v w : V} {d : D} (h : Rp K H v d) (e : fv d = some w) : v = w ∧ flatV w = true := by
  cases h <;> simp [fv] at e <;> subst e <;> exact ⟨rfl, rfl⟩
theorem fvL_ok : ∀ {vs ws : List V} {ds : List D}, RpL K H vs ds → fvL ds = some ws → vs = ws ∧ ws.all flatV = true
  | _, _, _, .nil, e => by simp [fvL] at e; subst e; exact ⟨rfl, rfl⟩
  | _, _, _, .cons h r, e => by
    obtain ⟨p, h1, e⟩ := Option.bind_eq_some_iff.mp e
    obtain ⟨ps, h2, rfl⟩ := Option.map_eq_some_iff.mp e
    obtain ⟨rfl, f1⟩ := fv_ok h h1
    obtain ⟨rfl, f2⟩ := fvL_ok r h2
    exact ⟨rfl, by rw [List.all_cons, f1, f2]; rfl⟩
def sqOf : D → Option (List D)
  | .lst ds => some ds
  | .frl ds => some ds
  | .tup ds => some ds
  | _ => none
theorem sq_ok {v : V} {d : D} {ds : List D} (h : Rp K H v d) (e : sqOf d = some ds) : ∃ q vs, v = .ref q ∧ (SqL K H q vs ∨ SqT K H q vs) ∧ RpL K H vs ds := by
  cases h <;> simp [sqOf] at e <;> subst e
  · rename_i h r; exact ⟨_, _, rfl, .inl (.of h), r⟩
  · rename_i h r; exact ⟨_, _, rfl, .inr (.of h), r⟩
  · rename_i h r; exact ⟨_, _, rfl, .inl h, r⟩
def oInS (neg : Bool) : Op2 := fun x y => (fv x.d).bind fun v => (sqOf y.d).bind fun ds => (fvL ds).map fun ws => pureV (.bl (if neg then !inV v ws else inV v ws))
theorem ok_inS {neg : Bool} : OpOk K (rIn K neg) (oInS neg) := by
  intro v w x y z es Hz H Q r hx hy hz q
  obtain ⟨u, e1, hz⟩ := Option.bind_eq_some_iff.mp hz
  obtain ⟨ds, e2, hz⟩ := Option.bind_eq_some_iff.mp hz
  obtain ⟨ws, e3, rfl⟩ := Option.map_eq_some_iff.mp hz
  obtain ⟨rfl, f1⟩ := fv_ok (hx.rp r.ex) e1
  obtain ⟨a, vs, rfl, h1, l⟩ := sq_ok (hy.rp r.ex) e2
  obtain ⟨rfl, f2⟩ := fvL_ok l e3
  exact ⟨a, vs, rfl, h1, f1, f2, q _ H Hz (Ex.refl _) (Ex.refl _) (.pure (.bl _) r)⟩
end
end Pd
end
section
/-! Pd: parts of an owned tree: where they lie, how they are lent and given back. -/
namespace Pd
open PySem L2 PyProof.Rows PySem.Spec
def kids : D → List D
  | .lst ds => ds
  | .dk _ ds => ds
  | .dt _ ds => ds
  | .ins _ _ ds => ds
  | _ => []
def withK : D → List D → D
  | .lst _, ds => .lst ds
  | .dk ks _, ds => .dk ks ds
  | .dt ks _, ds => .dt ks ds
  | .ins C ns _, ds => .ins C ns ds
  | d, _ => d
def hoVals : HO → List V
  | .lst vs => vs
  | .dK l => l.map Prod.snd
  | .dT l => l.map Prod.snd
  | .ins _ _ fs => fs.map Prod.snd
  | _ => []
def getP : D → List Nat → Option D
  | d, [] => some d
  | d, j :: p => ((kids d)[j]?).bind fun c => getP c p
def setP : D → List Nat → D → D
  | _, [], c => c
  | d, j :: p, c => withK d ((kids d).set j (setP ((kids d)[j]?.getD .non) p c))
/-- v stands at the path -/
def AtV (H : Hp) : V → List Nat → V → Prop
  | u, [], v => u = v
  | u, j :: p, v => ∃ a o w, u = .ref a ∧ H a = some o ∧ (hoVals o)[j]? = some w ∧ AtV H w p v
theorem AtV.mono {H H' : Hp} (e : Ex H H') : ∀ {p : List Nat} {u v : V}, AtV H u p v → AtV H' u p v
  | [], _, _, h => h
  | _ :: _, _, _, ⟨a, o, w, h1, h2, h3, h4⟩ => ⟨a, o, w, h1, e _ _ h2, h3, AtV.mono e h4⟩
theorem AtV.snoc {H : Hp} {a : Addr} {o : HO} {w : V} {j : Nat} (h2 : H a = some o) (h3 : (hoVals o)[j]? = some w) : ∀ {p : List Nat} {u : V}, AtV H u p (.ref a) → AtV H u (p ++ [j]) w
  | [], _, e => ⟨a, o, w, e, h2, h3, rfl⟩
  | _ :: _, _, ⟨b, o', w', g1, g2, g3, g4⟩ => ⟨b, o', w', g1, g2, g3, AtV.snoc h2 h3 g4⟩
section
variable {X : Cx} {W : WX} {s sa sb : Bool} {pos : Pos} {K : PySem.W.Frag} {σ : L2.St} {H Hz H' Hz' : Hp} {Q : VK} {es Fr : List Ent}
theorem zip_snd {α : Type} {ks : List α} {vs : List V} (l : ks.length = vs.length) : (ks.zip vs).map Prod.snd = vs := List.map_snd_zip (by omega)
theorem Own.kids {m : Nat} {v : V} {d : D} {A : List Addr} (h : Own K Hz H (m + 1) v d A) (hk : kids d ≠ []) : ∃ a o B, v = .ref a ∧ A = a :: B ∧ H a = some o ∧ OwnL K Hz H m (hoVals o) (kids d) B ∧
    ∀ ds' B', OwnL K Hz H m (hoVals o) ds' B' → Own K Hz H (m + 1) v (withK d ds') (a :: B') := by
  cases h with
  | fz c r =>
    rcases c with c | c
    · cases c
    · cases d <;> first | exact absurd rfl hk | cases c
  | lkt h => exact absurd rfl hk
  | lst h1 h2 => exact ⟨_, _, _, rfl, rfl, h1, h2, fun ds' B' q => .lst h1 q⟩
  | @dk _ a ks vs ds B h1 l h2 =>
    have e := zip_snd l
    refine ⟨_, _, _, rfl, rfl, h1, ?_, fun ds' B' q => ?_⟩
    · show OwnL K Hz H m ((ks.zip vs).map Prod.snd) ds B
      rw [e]; exact h2
    · refine .dk h1 l ?_
      have q' : OwnL K Hz H m ((ks.zip vs).map Prod.snd) ds' B' := q
      rw [e] at q'; exact q'
  | @dt _ a ks vs ds B h1 l h2 =>
    have e := zip_snd l
    refine ⟨_, _, _, rfl, rfl, h1, ?_, fun ds' B' q => ?_⟩
    · show OwnL K Hz H m ((ks.zip vs).map Prod.snd) ds B
      rw [e]; exact h2
    · refine .dt h1 l ?_
      have q' : OwnL K Hz H m ((ks.zip vs).map Prod.snd) ds' B' := q
      rw [e] at q'; exact q'
  | @ins _ a dx C ns vs ds B h1 l h2 =>
    have e : ((ns.map Nm.str).zip vs).map Prod.snd = vs := zip_snd (by rw [List.length_map]; exact l)
    refine ⟨_, _, _, rfl, rfl, h1, ?_, fun ds' B' q => ?_⟩
    · show OwnL K Hz H m (((ns.map Nm.str).zip vs).map Prod.snd) ds B
      rw [e]; exact h2
    · refine .ins h1 l ?_
      have q' : OwnL K Hz H m (((ns.map Nm.str).zip vs).map Prod.snd) ds' B' := q
      rw [e] at q'; exact q'
theorem OwnL.lend {m : Nat} {u : V} {c : D} : ∀ {vs : List V} {ds : List D} {A : List Addr} {j : Nat}, OwnL K Hz H m vs ds A → ds[j]? = some c → vs[j]? = some u → ∃ B A', A.Perm (B ++ A') ∧ Own K Hz H m u c B ∧ OwnL K Hz H m vs (ds.set j (.hole u)) A'
  | _, _, _, _, .nil, e, _ => by simp at e
  | _, _, _, 0, .cons (A := A) (B := B) h r, e, e2 => by
    simp at e e2
    subst e e2
    exact ⟨A, B, List.Perm.refl _, h, .cons (A := []) (.fz (.inr rfl) (.hole _)) r⟩
  | _, _, _, j + 1, .cons (A := A) (B := B) h r, e, e2 => by
    obtain ⟨C, A', p, o, q⟩ := OwnL.lend (j := j) r (by simpa using e) (by simpa using e2)
    refine ⟨C, A ++ A', ?_, o, .cons h q⟩
    refine (p.append_left A).trans ?_
    rw [← List.append_assoc, ← List.append_assoc]
    exact List.perm_append_comm.append_right _
theorem OwnL.back {m : Nat} {u : V} {c : D} {B : List Addr} (hc : Own K Hz H m u c B) : ∀ {vs : List V} {ds : List D} {A : List Addr} {j : Nat}, OwnL K Hz H m vs ds A → ds[j]? = some (.hole u) → ∃ A', (B ++ A).Perm A' ∧ OwnL K Hz H m vs (ds.set j c) A'
  | _, _, _, _, .nil, e => by simp at e
  | _, _, _, 0, .cons (A := A) (B := A2) h r, e => by
    simp at e
    subst e
    obtain ⟨rfl, q⟩ := h.imm rfl
    cases q
    exact ⟨B ++ A2, List.Perm.refl _, .cons hc r⟩
  | _, _, _, j + 1, .cons (A := A) (B := A2) h r, e => by
    obtain ⟨A', p, q⟩ := OwnL.back hc (j := j) r (by simpa using e)
    refine ⟨A ++ A', ?_, .cons h q⟩
    refine List.Perm.trans ?_ (p.append_left A)
    rw [← List.append_assoc, ← List.append_assoc]
    exact List.perm_append_comm.append_right _
theorem kids_withK {d : D} {ds : List D} (h : kids d ≠ []) : kids (withK d ds) = ds := by
  cases d <;> first | rfl | exact absurd rfl h
theorem withK_withK {d : D} {ds ds' : List D} : withK (withK d ds) ds' = withK d ds' := by
  cases d <;> rfl
theorem ne_of_get {α : Type} {xs : List α} {j : Nat} {x : α} (h : xs[j]? = some x) : xs ≠ [] := fun e => by rw [e] at h; simp at h
theorem R.at1 {m j : Nat} {root u : V} {d c : D} {a : Addr} {o : HO} (r : R K (⟨root, m + 1, d⟩ :: es) Hz H) (hc : (kids d)[j]? = some c) (ha : root = .ref a) (ho : H a = some o) (hu : (hoVals o)[j]? = some u) :
    R K (⟨u, m, c⟩ :: ⟨root, m + 1, withK d ((kids d).set j (.hole u))⟩ :: es) Hz H := by
  obtain ⟨ex, A, o', n, z⟩ := r
  cases o' with
  | @cons _ _ A B h r =>
    obtain ⟨a', o2, B', e1, rfl, h2, ow, mk⟩ := h.kids (ne_of_get hc)
    subst ha
    cases e1
    rw [ho] at h2; cases h2
    obtain ⟨C, A', p, q1, q2⟩ := ow.lend hc hu
    refine ⟨ex, _, .cons q1 (.cons (mk _ _ q2) r), ?_⟩
    have pp : (a :: B' ++ B).Perm (C ++ (a :: A' ++ B)) := by
      refine ((p.cons a).append_right B).trans ?_
      rw [← List.append_assoc]
      exact (List.perm_middle.symm).append_right B
    exact ⟨pp.nodup_iff.mp n, fun x hx => z x (pp.mem_iff.mpr hx)⟩
theorem R.unat1 {m j : Nat} {root u : V} {d c : D} (r : R K (⟨u, m, c⟩ :: ⟨root, m + 1, withK d ((kids d).set j (.hole u))⟩ :: es) Hz H) (hj : j < (kids d).length) :
    R K (⟨root, m + 1, withK d ((kids d).set j c)⟩ :: es) Hz H := by
  have hne : kids d ≠ [] := fun e => by rw [e] at hj; simp at hj
  obtain ⟨ex, A, o', n, z⟩ := r
  cases o' with
  | @cons _ _ C B0 q1 r0 =>
    cases r0 with
    | @cons _ _ A B h r =>
      have hk : kids (withK d ((kids d).set j (.hole u))) = (kids d).set j (.hole u) := kids_withK hne
      obtain ⟨a', o2, B', e1, rfl, h2, ow, mk⟩ := Own.kids h (by rw [hk]; exact fun e => by have := congrArg List.length e; simp at this; exact hne this)
      rw [hk] at ow
      obtain ⟨A', p, q⟩ := ow.back q1 (List.getElem?_set_self hj)
      rw [List.set_set] at q
      have o3 := mk _ _ q
      rw [withK_withK] at o3
      refine ⟨ex, _, .cons o3 r, ?_⟩
      have pp : (C ++ (a' :: B' ++ B)).Perm (a' :: A' ++ B) := by
        have p2 : (C ++ (a' :: B')).Perm (a' :: A') := List.perm_middle.trans (p.cons a')
        have p3 := p2.append_right B
        rw [List.append_assoc] at p3
        exact p3
      exact ⟨pp.nodup_iff.mp n, fun x hx => z x (pp.mem_iff.mpr hx)⟩
theorem R.swap (r : R K (a :: b :: es) Hz H) : R K (b :: a :: es) Hz H := r.perm (List.Perm.swap _ _ _)
/-- the part at a path, lent -/
theorem R.at : ∀ {p : List Nat} {m : Nat} {root u : V} {d c : D} {es : List Ent}, R K (⟨root, m, d⟩ :: es) Hz H → AtV H root p u → getP d p = some c → p.length ≤ m → R K (⟨u, m - p.length, c⟩ :: ⟨root, m, setP d p (.hole u)⟩ :: es) Hz H
  | [], m, root, u, d, c, es, r, e, hc, _ => by
    cases hc
    have e' : root = u := e
    subst e'
    exact (r.perm (List.Perm.refl _)).perm (List.Perm.refl _) |> fun r => (R.put (.inr rfl) (.hole root) r).swap
  | j :: p, 0, _, _, _, _, _, _, _, _, h => by simp at h
  | j :: p, m + 1, root, u, d, c, es, r, ⟨a, o, w, h1, h2, h3, h4⟩, hc, hl => by
    obtain ⟨k, hk, hc⟩ := Option.bind_eq_some_iff.mp hc
    have r1 := r.at1 hk h1 h2 h3
    have r2 := R.at (p := p) r1 h4 hc (by simpa using hl)
    -- the middle one back in its place
    have hj : j < (kids d).length := (List.getElem?_eq_some_iff.mp hk).1
    have r3 : R K (⟨w, m, setP k p (.hole u)⟩ :: ⟨root, m + 1, withK d ((kids d).set j (.hole w))⟩ :: ⟨u, m - p.length, c⟩ :: es) Hz H :=
      (r2.swap).perm ((List.Perm.swap _ _ _).cons _)
    have r4 := (r3.unat1 hj).swap
    have e1 : setP d (j :: p) (.hole u) = withK d ((kids d).set j (setP k p (.hole u))) := by
      show withK d ((kids d).set j (setP ((kids d)[j]?.getD .non) p (.hole u))) = _
      rw [hk]; rfl
    rw [e1]
    have e2 : m + 1 - (j :: p).length = m - p.length := by simp
    rw [e2]
    exact r4
/-- and given back -/
theorem R.unat : ∀ {p : List Nat} {m : Nat} {root u : V} {d c0 c : D} {es : List Ent}, R K (⟨u, m - p.length, c⟩ :: ⟨root, m, setP d p (.hole u)⟩ :: es) Hz H → getP d p = some c0 → p.length ≤ m → R K (⟨root, m, setP d p c⟩ :: es) Hz H
  | [], m, root, u, d, c0, c, es, r, _, _ => by
    have e : root = u := by
      obtain ⟨A, hA⟩ := (R.head (r.swap))
      have h : Rp K Hz root (.hole u) := (Own.imm (d := .hole u) rfl hA).2
      cases h
      rfl
    subst e
    exact r.swap.tail
  | j :: p, 0, _, _, _, _, _, _, _, _, h => by simp at h
  | j :: p, m + 1, root, u, d, c0, c, es, r, hc, hl => by
    obtain ⟨k, hk, hc⟩ := Option.bind_eq_some_iff.mp hc
    have hj : j < (kids d).length := (List.getElem?_eq_some_iff.mp hk).1
    have hne : kids d ≠ [] := ne_of_get hk
    have e1 : ∀ c, setP d (j :: p) c = withK d ((kids d).set j (setP k p c)) := fun c => by
      show withK d ((kids d).set j (setP ((kids d)[j]?.getD .non) p c)) = _
      rw [hk]; rfl
    have e2 : m + 1 - (j :: p).length = m - p.length := by simp
    rw [e1, e2] at r
    have r1 := r.swap
    have hk2 : kids (withK d ((kids d).set j (setP k p (.hole u)))) = (kids d).set j (setP k p (.hole u)) := kids_withK hne
    have hg : (kids (withK d ((kids d).set j (setP k p (.hole u)))))[j]? = some (setP k p (.hole u)) := by rw [hk2, List.getElem?_set_self hj]
    obtain ⟨A, hA⟩ := r1.head
    obtain ⟨a, o, B, rfl, _, ha, ow, _⟩ := Own.kids hA (ne_of_get hg)
    have hlen := ow.length
    rw [hk2, List.length_set] at hlen
    obtain ⟨w, hw⟩ : ∃ w, (hoVals o)[j]? = some w := ⟨_, List.getElem?_eq_getElem (by omega)⟩
    have r2 := R.at1 r1 hg rfl ha hw
    rw [hk2, List.set_set, withK_withK] at r2
    have r3 : R K (⟨u, m - p.length, c⟩ :: ⟨w, m, setP k p (.hole u)⟩ :: ⟨.ref a, m + 1, withK d ((kids d).set j (.hole w))⟩ :: es) Hz H := by
      refine r2.perm ?_
      refine List.Perm.trans ?_ (List.Perm.swap _ _ _)
      exact (List.Perm.swap _ _ _).cons _
    have r4 := R.unat (p := p) r3 hc (by simpa using hl)
    rw [e1]
    exact r4.unat1 hj
/-- the part of a variable at hand -/
theorem slot_at {ρ : Vr} {σ : L2.St} {i m : Nat} {d c : D} {p : List Nat} {v : V} {pre : List Ent} (S : Slots σ ρ es) (r : R K (pre ++ (es ++ Fr)) Hz H) (e : ρ[i]? = some (some (m, d))) (hv : ∀ root, σ[i]? = some (some root) → AtV H root p v) (hc : getP d p = some c) (hl : p.length ≤ m) :
    ∃ F : List Ent, R K (⟨v, m - p.length, c⟩ :: (pre ++ F)) Hz H ∧ ∀ {c' : D} {H' Hz' : Hp}, R K (⟨v, m - p.length, c'⟩ :: F) Hz' H' → ∃ es', Slots σ (ρ.set i (some (m, setP d p c'))) es' ∧ R K (es' ++ Fr) Hz' H' := by
  obtain ⟨root, es', h1, h2, h3⟩ := S.take e
  have r1 : R K (⟨root, m, d⟩ :: (pre ++ (es' ++ Fr))) Hz H := by
    refine r.perm ?_
    refine (((h2.append_right Fr)).append_left pre).trans ?_
    exact List.perm_middle
  have r2 := r1.at (hv root h1) hc hl
  refine ⟨⟨root, m, setP d p (.hole v)⟩ :: (es' ++ Fr), r2.perm (List.perm_middle.symm.cons _), fun {c' H' Hz'} r3 => ?_⟩
  have r4 := R.unat (c := c') r3 hc hl
  have hi : i < ρ.length := (List.getElem?_eq_some_iff.mp e).1
  obtain ⟨es2, S2, p2⟩ := h3.put (v := root) (m := m) (d := setP d p c') (by rw [List.getElem?_set_self hi]) h1
  rw [List.set_set] at S2
  exact ⟨es2, S2, r4.perm (mid p2).symm⟩

/-! ### where a part lies -/
inductive RL where
  | ok (i : Nat) (p : List Nat) (ρ : Vr)
  | stuck
abbrev LF := Vr → RL
def tLo (K : PySem.W.Frag) (f : LF) : TE := fun σ H Q => ∃ ρ es Fr Hz, Slots σ ρ es ∧ R K (es ++ Fr) Hz H ∧ match f ρ with
  | .ok i p ρ' => ∀ v H' Hz' es' c m d, Ex Hz Hz' → Ex H H' → Slots σ ρ' es' → R K (es' ++ Fr) Hz' H' → ρ'[i]? = some (some (m, d)) → getP d p = some c → Rp K H' v c → (∀ root, σ[i]? = some (some root) → AtV H' root p v) → Q v H'
  | .stuck => False
abbrev SL (X : Cx) (e : Expr) (f : LF) : Prop := PE X e (tLo X.K f)
def lVar (i : Nat) : LF := fun ρ => match ρ[i]? with
  | some (some _) => .ok i [] ρ
  | _ => .stuck
theorem sl_var (i : Nat) {x : Str} (hN : X.N[i]? = some x := by rfl) (hv : Vis X.env.scope x := by first | exact Or.inl rfl | exact Or.inr (Or.inl rfl) | exact Or.inr (Or.inr rfl)) (hd : (x == ("__debug__" : Str)) = false := by decide)
    (hcd : (x == ("__classdict__" : Str)) = false := by decide) : SL X (.Name x pos) (lVar i) := by
  refine peImp (pv i hN hv hd hcd) fun σ H Q ⟨ρ, es, Fr, Hz, S, r, q⟩ => ?_
  unfold lVar at q
  cases e : ρ[i]? with
  | none => rw [e] at q; exact q.elim
  | some o => cases o with
    | none => rw [e] at q; exact q.elim
    | some md =>
      obtain ⟨m, d⟩ := md
      rw [e] at q
      obtain ⟨v, es', h1, h2, h3⟩ := S.take e
      refine ⟨v, h1, q v H Hz es d m d (Ex.refl _) (Ex.refl _) S r e rfl (r.perm (mid h2)).rp fun root hr => ?_⟩
      rw [h1] at hr
      cases hr
      exact rfl
def ixNm (n : Nm) : List Nm → Option Nat
  | [] => none
  | k :: ns => if k = n then some 0 else (ixNm n ns).map (· + 1)
theorem ixNm_ok {n : Nm} (inj : ∀ k : Nm, k.str = n.str → k = n) : ∀ {ns : List Nm} {vs : List V} {j : Nat} {v : V}, ixNm n ns = some j → vs[j]? = some v → ((ns.map Nm.str).zip vs).lookup n.str = some v
  | [], _, _, _, e, _ => by simp [ixNm] at e
  | k :: ns, [], j, v, _, e2 => by simp at e2
  | k :: ns, w :: vs, j, v, e, e2 => by
    unfold ixNm at e
    rw [List.map_cons, List.zip_cons_cons, List.lookup_cons]
    by_cases c : k = n
    · rw [if_pos c] at e
      cases e
      simp at e2
      subst c e2
      simp
    · rw [if_neg c] at e
      obtain ⟨j', h1, rfl⟩ := Option.map_eq_some_iff.mp e
      have hb : (n.str == k.str) = false := beq_eq_false_iff_ne.mpr fun q => c (inj k q.symm)
      rw [hb]
      exact ixNm_ok inj h1 (by simpa using e2)
/-- o.n -/
def lFld (ft : Nm → List Nm) (n : Nm) (f : LF) : LF := fun ρ => match f ρ with
  | .ok i p ρ1 => match ρ1[i]? with
    | some (some (_, d)) => match getP d p with
      | some (.ins C ns ds) => match ixNm n ns with
        | some j => if n ∈ ft C ∧ j < ds.length then .ok i (p ++ [j]) ρ1 else .stuck
        | none => .stuck
      | _ => .stuck
    | _ => .stuck
  | .stuck => .stuck
theorem getP_snoc {j : Nat} {c k : D} : ∀ {p : List Nat} {d : D}, getP d p = some c → (kids c)[j]? = some k → getP d (p ++ [j]) = some k
  | [], _, e, h => by
    cases e
    show ((kids c)[j]?).bind (fun c => getP c []) = _
    rw [h]; rfl
  | a :: p, d, e, h => by
    obtain ⟨x, h1, h2⟩ := Option.bind_eq_some_iff.mp e
    show ((kids d)[a]?).bind (fun c => getP c (p ++ [j])) = _
    rw [h1]
    exact getP_snoc h2 h
theorem sl_fld {ft : Nm → List Nm} {a : Expr} {f : LF} (F : FldOk X.K ft) (n : Nm) (ha : SL X a f) (hb : attributeBase a n.str X.env (eval a X.env) = eval a X.env := by rfl) : SL X (.Attribute a n.str pos) (lFld ft n f) := by
  refine peImp (pe_fld ha hb) fun σ H Q ⟨ρ, es, Fr, Hz, S, r, q⟩ => ⟨ρ, es, Fr, Hz, S, r, ?_⟩
  unfold lFld at q
  cases e : f ρ with
  | stuck => rw [e] at q; exact q.elim
  | ok i p ρ1 =>
    rw [e] at q
    dsimp only at q ⊢
    intro v H1 Hz1 es1 c m d ez k S1 r1 h1 h2 h3 h4
    rw [h1] at q
    dsimp only at q
    rw [h2] at q
    cases c with
    | ins C ns ds =>
      dsimp only at q
      cases e3 : ixNm n ns with
      | none => rw [e3] at q; exact q.elim
      | some j =>
        rw [e3] at q
        dsimp only at q
        by_cases c : n ∈ ft C ∧ j < ds.length
        · rw [if_pos c] at q
          obtain ⟨c1, c2⟩ := F.cls C n c.1
          cases h3 with
          | @ins a dx _ _ vs _ g1 l rl =>
            have hl := rl.length
            obtain ⟨w, hw⟩ : ∃ w, vs[j]? = some w := ⟨_, List.getElem?_eq_getElem (by omega)⟩
            obtain ⟨cd, hcd⟩ : ∃ w, ds[j]? = some w := ⟨_, List.getElem?_eq_getElem c.2⟩
            obtain ⟨w', hw', hr⟩ := rl.get hcd
            rw [hw] at hw'; cases hw'
            refine ⟨a, _, dx, _, w, rfl, g1, c1, c2, ixNm_ok (F.inj n) e3 hw, ?_⟩
            refine q w H1 Hz1 es1 cd m d ez k S1 r1 h1 (getP_snoc h2 hcd) hr fun root hroot => AtV.snoc g1 ?_ (h4 root hroot)
            show (((ns.map Nm.str).zip vs).map Prod.snd)[j]? = some w
            rw [zip_snd (by rw [List.length_map]; exact l)]
            exact hw
        · rw [if_neg c] at q
          exact q.elim
    | _ => exact q.elim
/-- o[e], o a list -/
def lIdx (f : LF) (fe : EF) : LF := fun ρ => match f ρ with
  | .ok i p ρ1 => match fe ρ1 with
    | .ok x ρ2 => match ρ2[i]?, x.d with
      | some (some (_, d)), .int k => match getP d p with
        | some (.lst ds) => match ixN ds.length k with
          | some j => if j < ds.length then .ok i (p ++ [j]) ρ2 else .stuck
          | none => .stuck
        | _ => .stuck
      | _, _ => .stuck
    | _ => .stuck
  | .stuck => .stuck
end
end Pd
end
section
/-! Pd: changes of parts; comprehensions as expressions. -/
namespace Pd
open PySem L2 PyProof.Rows PySem.Spec
section
variable {X : Cx} {W : WX} {U : List Nat} {s sa sb sc sk sy : Bool} {p pos apos pos' : Pos} {K : PySem.W.Frag} {σ σ' : L2.St} {H Hz H' Hz' : Hp} {Q : VK} {es Fr : List Ent} {a b e : Expr} {fa fb fc fi fk fy : EF} {f g : SF} {lc : LF} {v : V} {Z : Ends}
/-- what lies at a path -/
theorem rp_at {c : D} : ∀ {p : List Nat} {u v : V} {d : D}, Rp K H u d → AtV H u p v → getP d p = some c → Rp K H v c
  | [], u, v, d, r, e, h => by
    have e' : u = v := e
    subst e'
    cases h
    exact r
  | j :: p, u, v, d, r, ⟨a, o, w, h1, h2, h3, h4⟩, h => by
    obtain ⟨k, hk, hc⟩ := Option.bind_eq_some_iff.mp h
    subst h1
    have go : ∀ {vs : List V} {ds : List D}, RpL K H vs ds → hoVals o = vs → ds[j]? = some k → Rp K H w k := fun {vs ds} rl ev hd => by
      obtain ⟨w', hw, hr⟩ := rl.get hd
      rw [ev, hw] at h3
      cases h3
      exact hr
    have hr : Rp K H w k := by
      cases r with
      | lst g1 rl => rw [h2] at g1; cases g1; exact go rl rfl hk
      | dk g1 l rl => rw [h2] at g1; cases g1; exact go rl (zip_snd l) hk
      | dt g1 l rl => rw [h2] at g1; cases g1; exact go rl (zip_snd l) hk
      | ins g1 l rl => rw [h2] at g1; cases g1; exact go rl (zip_snd (by rw [List.length_map]; exact l)) hk
      | tup g1 rl => simp [kids] at hk
      | frl g1 rl => simp [kids] at hk
      | cls C => simp [kids] at hk
      | hole v => simp [kids] at hk
      | lkt h => simp [kids] at hk
    exact rp_at hr h4 hc
theorem slot_rp {ρ : Vr} {i m : Nat} {d c : D} {p : List Nat} (S : Slots σ ρ es) (r : R K (es ++ Fr) Hz H) (e : ρ[i]? = some (some (m, d))) (hv : ∀ root, σ[i]? = some (some root) → AtV H root p v) (hc : getP d p = some c) : Rp K H v c := by
  obtain ⟨root, es', h1, h2, h3⟩ := S.take e
  exact rp_at (r.perm (mid h2)).rp (hv root h1) hc
theorem sl_idx (ha : SL X a lc) (hb : SE X W0 true b fk) (hp : PlainIx b := by intro _ _; rfl) : SL X (.Subscript a b pos) (lIdx lc fk) := by
  refine peImp (pe_ix ix_list ha hb hp) fun σ H Q ⟨ρ, es, Fr, Hz, S, r, q⟩ => ⟨ρ, es, Fr, Hz, S, r, ?_⟩
  unfold lIdx at q
  cases e : lc ρ with
  | stuck => rw [e] at q; exact q.elim
  | ok i p ρ1 =>
    rw [e] at q
    dsimp only at q ⊢
    intro v H1 Hz1 es1 c m d ez k S1 r1 h1 h2 h3 h4
    refine ⟨ρ1, es1, Fr, Hz1, S1, r1, ?_⟩
    cases e2 : fk ρ1 with
    | stuck => rw [e2] at q; exact q.elim
    | exc C ns xs ρ' => rw [e2] at q; exact q.elim
    | ok x ρ2 =>
      rw [e2] at q
      dsimp only at q
      intro w H2 Hz2 es2 ez2 k2 S2 o2
      have k2' := k2 rfl
      cases e3 : ρ2[i]? with
      | none => rw [e3] at q; exact q.elim
      | some o => cases o with
        | none => rw [e3] at q; exact q.elim
        | some md =>
          obtain ⟨m2, d2⟩ := md
          rw [e3] at q
          cases e4 : x.d with
          | int kk =>
            rw [e4] at q
            dsimp only at q
            cases e5 : getP d2 p with
            | none => rw [e5] at q; exact q.elim
            | some c2 =>
              rw [e5] at q
              cases c2 with
              | lst ds =>
                dsimp only at q
                cases e6 : ixN ds.length kk with
                | none => rw [e6] at q; exact q.elim
                | some j =>
                  rw [e6] at q
                  dsimp only at q
                  by_cases hj : j < ds.length
                  · rw [if_pos hj] at q
                    dsimp only at q
                    have at2 : ∀ root, σ[i]? = some (some root) → AtV H2 root p v := fun root hr => (h4 root hr).mono k2'
                    have hrp := slot_rp S2 o2.rest e3 at2 e5
                    cases hrp with
                    | @lst a vs _ g1 rl =>
                      obtain ⟨cd, hcd⟩ : ∃ y, ds[j]? = some y := ⟨_, List.getElem?_eq_getElem hj⟩
                      obtain ⟨u, hu, hr⟩ := rl.get hcd
                      refine ⟨a, vs, kk, u, rfl, o2.view.int e4, .of g1, ?_, ?_⟩
                      · show (ixN vs.length kk).bind (fun j => vs[j]?) = some u
                        rw [rl.length, e6]
                        exact hu
                      · exact q u H2 Hz2 es2 cd m2 d2 (ez.trans ez2) (k.trans k2') S2 o2.rest e3 (getP_snoc e5 hcd) hr fun root hr => AtV.snoc g1 hu (at2 root hr)
                  · rw [if_neg hj] at q
                    exact q.elim
              | _ => exact q.elim
          | _ => rw [e4] at q; exact q.elim

/-! ### a part is changed -/
def mutO (i : Nat) (p : List Nat) (ρ : Vr) (k : Nat → D → Option D) : Option Vr := match ρ[i]? with
  | some (some (m, d)) => match getP d p with
    | some c => if p.length < m then (k (m - p.length - 1) c).map fun c' => ρ.set i (some (m, setP d p c')) else none
    | none => none
  | _ => none
def mutS (i : Nat) (p : List Nat) (ρ : Vr) (k : Nat → D → Option D) : RS := match mutO i p ρ k with
  | some ρ' => .nx ρ'
  | none => .stuck
theorem mutO_ok {i : Nat} {p : List Nat} {ρ ρ' : Vr} {k : Nat → D → Option D} {pre : List Ent} (e : mutO i p ρ k = some ρ') (S : Slots σ ρ es) (r : R K (pre ++ (es ++ Fr)) Hz H) (hv : ∀ root, σ[i]? = some (some root) → AtV H root p v) :
    ∃ (j : Nat) (c c' : D) (F : List Ent), k j c = some c' ∧ (∃ m d, ρ[i]? = some (some (m, d)) ∧ getP d p = some c) ∧ R K (⟨v, j + 1, c⟩ :: (pre ++ F)) Hz H ∧ ∀ {H' Hz' : Hp}, R K (⟨v, j + 1, c'⟩ :: F) Hz' H' → ∃ es', Slots σ ρ' es' ∧ R K (es' ++ Fr) Hz' H' := by
  unfold mutO at e
  split at e
  · rename_i m d e1
    split at e
    · rename_i c e2
      split at e
      · rename_i hl
        obtain ⟨c', h1, rfl⟩ := Option.map_eq_some_iff.mp e
        obtain ⟨F, r1, back⟩ := slot_at S r e1 hv e2 (Nat.le_of_lt hl)
        have hm : m - p.length = (m - p.length - 1) + 1 := by omega
        rw [hm] at r1 back
        exact ⟨_, c, c', F, h1, ⟨m, d, e1, e2⟩, r1, fun {H' Hz'} r2 => back r2⟩
      · cases e
    · cases e
  · cases e
def isLst : D → Bool
  | .lst _ => true
  | _ => false
def lstAt (i : Nat) (p : List Nat) (ρ : Vr) : Bool := match ρ[i]? with
  | some (some (_, d)) => match getP d p with
    | some c => isLst c
    | none => false
  | _ => false
theorem lstAt_ok {i m : Nat} {p : List Nat} {ρ : Vr} {c d : D} (h : lstAt i p ρ = true) (e : ρ[i]? = some (some (m, d))) (e2 : getP d p = some c) (r : Rp K H v c) : tyV K "list" v H := by
  unfold lstAt at h
  rw [e] at h
  dsimp only at h
  rw [e2] at h
  cases r with
  | lst g1 rl => exact .inl ⟨rfl, _, .of g1⟩
  | _ => cases h
def appK (y : RV) (j : Nat) (c : D) : Option D := match c with
  | .lst ds => if ds.length < BIG ∧ (j ≤ y.q ∨ immut y.d = true) then some (.lst (ds ++ [y.d])) else none
  | _ => none
/-- xs.append(e); sy: e changes nothing -/
def sApp (sy : Bool) (lc : LF) (fy : EF) : SF := fun ρ => match lc ρ with
  | .ok i p ρ1 => if lstAt i p ρ1 = true ∧ (sy = true ∨ p = []) then (fy ρ1).bindS fun y ρ2 => if y.b = true then .stuck else mutS i p ρ2 (appK y) else .stuck
  | .stuck => .stuck
theorem AtV.same {p : List Nat} {H1 H2 : Hp} {u v : V} (hp : sy = true ∨ p = []) (k : sy = true → Ex H1 H2) (h : AtV H1 u p v) : AtV H2 u p v := by
  rcases hp with hp | hp
  · exact h.mono (k hp)
  · subst hp; exact h
theorem ss_append (ha : SL X a lc) (hb : SE X W sy b fy) (hs : swapsWith (.Call (.Attribute a "append" apos) [b] [] pos) none pos'.line X.env = pure false := by rfl)
    (hbase : attributeBase a "append" X.env (eval a X.env) = eval a X.env := by rfl)
    (hfew : ((backTo pos (starEach (b :: []) X.env)).all (fun x => !x.1) && (backToKw pos (keywordEach [] X.env)).all (fun x => x.1.isSome)
      && decide ((b :: []).length + ([] : List Keyword).length + (if ([] : List Keyword).isEmpty then 0 else 1) < 30)) = true := by rfl)
    (hline : (apos.endLine == pos.line) = true := by rfl) (hst : starEach (b :: []) X.env = (false, eval b X.env) :: starEach [] X.env := by rfl) :
    SS X W U (.Expr (.Call (.Attribute a "append" apos) [b] [] pos) pos') (sApp sy lc fy) := by
  refine psImp (ps_expr (pe_bm PySem.F.plainAttrs_list PySem.F.slot_list_append PySem.F.type_list_append mt_append ha (pa_cons hb pa_nil hst) hbase hfew hline hst rfl) hs) fun Z σ H ⟨ρ, es, Fr, Hz, S, r, q⟩ => ⟨ρ, es, Fr, Hz, S, r, ?_⟩
  unfold sApp at q
  cases e : lc ρ with
  | stuck => rw [e] at q; exact q.elim
  | ok i p ρ1 =>
    rw [e] at q
    dsimp only at q ⊢
    intro v H1 Hz1 es1 c m d ez k S1 r1 h1 h2 h3 h4
    by_cases hc : lstAt i p ρ1 = true ∧ (sy = true ∨ p = [])
    · rw [if_pos hc] at q
      refine ⟨lstAt_ok hc.1 h1 h2 h3, ρ1, es1, Fr, Hz1, S1, r1, ?_⟩
      cases e2 : fy ρ1 with
      | stuck => rw [e2] at q; exact q.elim
      | exc C ns xs ρ' =>
        rw [e2] at q
        exact fun dx H' Hz' es' ez2 x S r => q dx σ H' Hz' es' (ez.trans ez2) (Fix.refl _ _) x S r
      | ok y ρ2 =>
        rw [e2] at q
        dsimp only [RE.bindS] at q
        intro w H2 Hz2 es2 ez2 k2 S2 o2
        by_cases hb : y.b = true
        · rw [if_pos hb] at q; exact q.elim
        · rw [if_neg hb] at q
          unfold mutS at q
          cases e3 : mutO i p ρ2 (appK y) with
          | none => rw [e3] at q; exact q.elim
          | some ρ3 =>
            rw [e3] at q
            obtain ⟨j, c1, c', F, g1, _, r3, back⟩ := mutO_ok (pre := [⟨w, y.q, y.d⟩]) e3 S2 (o2.own (by simpa using hb)) (v := v) fun root hr => (h4 root hr).same hc.2 k2
            unfold appK at g1
            split at g1
            · rename_i ds
              split at g1
              · rename_i hk
                cases g1
                obtain ⟨Hz3, ez3, r4⟩ := (r3.swap).weaken j hk.2
                obtain ⟨A, hA⟩ := r4.swap.head
                obtain ⟨l, vs, B, rfl, _, hl, ow⟩ := hA.lst_inv
                obtain ⟨es', S', r'⟩ := back (r4.swap.append hl)
                exact ⟨l, vs, w, rfl, rfl, hl, by rw [ow.length]; exact big_lt hk.1, q σ _ Hz3 es' ((ez.trans ez2).trans ez3) (Fix.refl _ _) S' r'⟩
              · cases g1
            · cases g1
    · rw [if_neg hc] at q; exact q.elim
def popK (j : Nat) (c : D) : Option D := match c with
  | .lst ds => match ds.getLast? with
    | some l => if j = 0 ∨ immut l = true then some (.lst ds.dropLast) else none
    | none => none
  | _ => none
def lastAt (i : Nat) (p : List Nat) (ρ : Vr) : Option D := match ρ[i]? with
  | some (some (_, d)) => match getP d p with
    | some (.lst ds) => ds.getLast?
    | _ => none
  | _ => none
/-- xs.pop() -/
def ePop (lc : LF) : EF := fun ρ => match lc ρ with
  | .ok i p ρ1 => match lastAt i p ρ1, mutO i p ρ1 popK with
    | some l, some ρ2 => .ok (pureV l) ρ2
    | _, _ => .stuck
  | .stuck => .stuck
theorem se_pop (ha : SL X a lc) (hbase : attributeBase a "pop" X.env (eval a X.env) = eval a X.env := by rfl) (hline : (apos.endLine == pos.line) = true := by rfl) : SE X W false (.Call (.Attribute a "pop" apos) [] [] pos) (ePop lc) := by
  refine peImp (pe_bm0 PySem.F.plainAttrs_list PySem.F.slot_list_pop PySem.F.type_list_pop mt_pop ha hbase hline) fun σ H Q ⟨ρ, es, Fr, Hz, S, r, q⟩ => ⟨ρ, es, Fr, Hz, S, r, ?_⟩
  unfold ePop at q
  cases e : lc ρ with
  | stuck => rw [e] at q; exact q.elim
  | ok i p ρ1 =>
    rw [e] at q
    dsimp only at q ⊢
    intro v H1 Hz1 es1 c m d ez k S1 r1 h1 h2 h3 h4
    cases e1 : lastAt i p ρ1 with
    | none => rw [e1] at q; exact q.elim
    | some l =>
      cases e2 : mutO i p ρ1 popK with
      | none => rw [e1, e2] at q; exact q.elim
      | some ρ2 =>
        rw [e1, e2] at q
        dsimp only at q
        unfold lastAt at e1
        rw [h1] at e1
        dsimp only at e1
        rw [h2] at e1
        cases h3 with
        | @lst a0 vs0 ds g0 rl0 =>
          dsimp only at e1
          refine ⟨.inl ⟨rfl, _, .of g0⟩, ?_⟩
          obtain ⟨j, c1, c', F, g1, ⟨m', d', k1, k2⟩, r3, back⟩ := mutO_ok (pre := []) e2 S1 r1 (v := .ref a0) h4
          rw [h1] at k1
          cases k1
          rw [h2] at k2
          cases k2
          unfold popK at g1
          obtain ⟨A, hA⟩ := r3.head
          dsimp only at g1
          obtain ⟨a1, vs, B, ev, _, hl, ow⟩ := hA.lst_inv
          cases ev
          rw [g0] at hl
          cases hl
          rw [e1] at g1
          dsimp only at g1
          split at g1
          · rename_i hk
            cases g1
            obtain ⟨es', S', r'⟩ := back (r3.init g0)
            have el' : ds[ds.length - 1]? = some l := by rw [← List.getLast?_eq_getElem?]; exact e1
            obtain ⟨u, B', hu, hB⟩ := ow.getV el'
            have hz : Rp X.K Hz1 u l := by
              rcases hk with hk | hk
              · subst hk; exact hB.zero.2
              · exact (hB.imm hk).2
            refine ⟨a0, vs0, u, rfl, rfl, g0, by rw [ow.length]; exact hu, q u _ Hz1 es' ez (fun z => by cases z) S' (.pure hz r')⟩
          · cases g1
        | _ => cases e1
/-- xs.extend(e) -/
def extK (y : RV) (j : Nat) (c : D) : Option D := match c with
  | .lst ds => match y.d with
    | .lst fs => if ds.length + fs.length ≤ BIG ∧ y.q ≤ 1 ∧ j = 0 then some (.lst (ds ++ fs)) else none
    | _ => none
  | _ => none
def sExt (sy : Bool) (lc : LF) (fy : EF) : SF := fun ρ => match lc ρ with
  | .ok i p ρ1 => if lstAt i p ρ1 = true ∧ (sy = true ∨ p = []) then (fy ρ1).bindS fun y ρ2 => if y.b = true then .stuck else mutS i p ρ2 (extK y) else .stuck
  | .stuck => .stuck
theorem ss_extend (ha : SL X a lc) (hb : SE X W sy b fy) (hs : swapsWith (.Call (.Attribute a "extend" apos) [b] [] pos) none pos'.line X.env = pure false := by rfl)
    (hbase : attributeBase a "extend" X.env (eval a X.env) = eval a X.env := by rfl)
    (hfew : ((backTo pos (starEach (b :: []) X.env)).all (fun x => !x.1) && (backToKw pos (keywordEach [] X.env)).all (fun x => x.1.isSome)
      && decide ((b :: []).length + ([] : List Keyword).length + (if ([] : List Keyword).isEmpty then 0 else 1) < 30)) = true := by rfl)
    (hline : (apos.endLine == pos.line) = true := by rfl) (hst : starEach (b :: []) X.env = (false, eval b X.env) :: starEach [] X.env := by rfl) :
    SS X W U (.Expr (.Call (.Attribute a "extend" apos) [b] [] pos) pos') (sExt sy lc fy) := by
  refine psImp (ps_expr (pe_bm PySem.F.plainAttrs_list PySem.F.slot_list_extend PySem.F.type_list_extend mt_extend ha (pa_cons hb pa_nil hst) hbase hfew hline hst rfl) hs) fun Z σ H ⟨ρ, es, Fr, Hz, S, r, q⟩ => ⟨ρ, es, Fr, Hz, S, r, ?_⟩
  unfold sExt at q
  cases e : lc ρ with
  | stuck => rw [e] at q; exact q.elim
  | ok i p ρ1 =>
    rw [e] at q
    dsimp only at q ⊢
    intro v H1 Hz1 es1 c m d ez k S1 r1 h1 h2 h3 h4
    by_cases hc : lstAt i p ρ1 = true ∧ (sy = true ∨ p = [])
    · rw [if_pos hc] at q
      refine ⟨lstAt_ok hc.1 h1 h2 h3, ρ1, es1, Fr, Hz1, S1, r1, ?_⟩
      cases e2 : fy ρ1 with
      | stuck => rw [e2] at q; exact q.elim
      | exc C ns xs ρ' =>
        rw [e2] at q
        exact fun dx H' Hz' es' ez2 x S r => q dx σ H' Hz' es' (ez.trans ez2) (Fix.refl _ _) x S r
      | ok y ρ2 =>
        rw [e2] at q
        dsimp only [RE.bindS] at q
        intro w H2 Hz2 es2 ez2 k2 S2 o2
        by_cases hb : y.b = true
        · rw [if_pos hb] at q; exact q.elim
        · rw [if_neg hb] at q
          unfold mutS at q
          cases e3 : mutO i p ρ2 (extK y) with
          | none => rw [e3] at q; exact q.elim
          | some ρ3 =>
            rw [e3] at q
            obtain ⟨j, c1, c', F, g1, _, r3, back⟩ := mutO_ok (pre := [⟨w, y.q, y.d⟩]) e3 S2 (o2.own (by simpa using hb)) (v := v) fun root hr => (h4 root hr).same hc.2 k2
            unfold extK at g1
            split at g1
            · rename_i ds
              split at g1
              · rename_i fs ey
                split at g1
                · rename_i hk
                  cases g1
                  obtain ⟨hk1, hk2, hk3⟩ := hk
                  subst hk3
                  obtain ⟨A, hA⟩ := r3.head
                  obtain ⟨l, vs, B, rfl, _, hl, ow⟩ := hA.lst_inv
                  have hvw : View X.K Hz2 H2 w y := r3.swap.head
                  obtain ⟨b', ws, A2, rfl, hb', ow2⟩ := hvw.lst r3.ex ey
                  obtain ⟨es', S', r'⟩ := back (R.extend (r3.swap.tail) hl (ow2.low hk2 rfl))
                  exact ⟨l, b', vs, ws, rfl, rfl, hl, hb', by rw [ow.length, ow2.length]; exact big_line hk1, q σ _ Hz2 es' (ez.trans ez2) (Fix.refl _ _) S' r'⟩
                · cases g1
              · cases g1
            · cases g1
    · rw [if_neg hc] at q; exact q.elim
/-- xs[i] = e -/
def setK (k : Int) (y : RV) (j : Nat) (c : D) : Option D := match c with
  | .lst ds => match ixN ds.length k with
    | some n => if n < ds.length ∧ (j ≤ y.q ∨ immut y.d = true) then some (.lst (ds.set n y.d)) else none
    | none => none
  | _ => none
def intD (x : RV) : Option Int := match x.d with
  | .int k => some k
  | _ => none
theorem intD_eq {x : RV} {k : Int} (h : intD x = some k) : x.d = .int k := by
  unfold intD at h
  split at h
  · rename_i j e; cases h; exact e
  · cases h
def sIxS (sk : Bool) (lc : LF) (fk fy : EF) : SF := fun ρ => (fy ρ).bindS fun y ρ0 => if y.b = true then .stuck else match lc ρ0 with
  | .ok i p ρ1 => if sk = true ∨ p = [] then (fk ρ1).bindS fun x ρ2 => match intD x with
      | some k => mutS i p ρ2 (setK k y)
      | none => .stuck
    else .stuck
  | .stuck => .stuck
theorem RetS.frame {e : Ent} {r : RS} (q : RetS K Fr σ U Hz W r Z) : RetS K (e :: Fr) σ U Hz W r Z := by
  cases r with
  | stuck => exact q
  | nx ρ => exact fun τ H' Hz2 es' e f S r => q τ H' Hz2 es' e f S r.swap4.tail
  | bk ρ => exact fun τ H' Hz2 es' e f S r => q τ H' Hz2 es' e f S r.swap4.tail
  | ct ρ => exact fun τ H' Hz2 es' e f S r => q τ H' Hz2 es' e f S r.swap4.tail
  | rt x ρ => exact ⟨q.1, fun v τ H' Hz2 es' e f S r => q.2 v τ H' Hz2 es' e f S ((r.perm (List.perm_middle.cons _)).perm (List.Perm.swap _ _ _)).tail⟩
  | exc C ns xs ρ => exact fun dx τ H' Hz2 es' e f x S r => q dx τ H' Hz2 es' e f x S r.swap4.tail
theorem ss_ixset {tpos : Pos} {fyE : Expr} (hc : SE X W s fyE fy) (ha : SL X a lc) (hb : SE X W sk b fk)
    (hasg : ∀ v, assign (.Subscript a b tpos) X.env v = (do
      let ov ← holding [v] (eval a X.env)
      let iv ← holding [v, ov] (eval b X.env)
      standAt tpos
      holding [v, ov, iv] (setItem ov iv v)
      release [v, ov, iv] []) := by intro _; rfl)
    (hs : swapsWithSole [.Subscript a b tpos] fyE pos.line X.env = pure false := by rfl) (hw : swappedStores [.Subscript a b tpos] fyE X.env = pure none := by rfl)
    (h1 : (assignEach [.Subscript a b tpos] X.env).map (·.2) = [assign (.Subscript a b tpos) X.env] := by rfl) : SS X W U (.Assign [.Subscript a b tpos] fyE pos) (sIxS sk lc fk fy) := by
  refine psImp (ps_asg hc (pg_sub ha hb set_list hasg) hs hw h1) fun Z σ H q => ?_
  refine oneS q fun w y ρ0 es0 Fr Hz0 H0 S0 o0 q => ?_
  by_cases hyb : y.b = true
  · rw [if_pos hyb] at q; exact q.elim
  rw [if_neg hyb] at q
  have o0' := o0.own (by simpa using hyb)
  refine ⟨ρ0, es0, ⟨w, y.q, y.d⟩ :: Fr, Hz0, S0, o0'.swap3, ?_⟩
  cases e : lc ρ0 with
  | stuck => rw [e] at q; exact q.elim
  | ok i p ρ1 =>
    rw [e] at q
    dsimp only at q ⊢
    intro v H1 Hz1 es1 c m d ez k S1 r1 h1 h2 h3 h4
    by_cases hcd : sk = true ∨ p = []
    · rw [if_pos hcd] at q
      refine ⟨ρ1, es1, ⟨w, y.q, y.d⟩ :: Fr, Hz1, S1, r1, ?_⟩
      cases e2 : fk ρ1 with
      | stuck => rw [e2] at q; exact q.elim
      | exc C ns xs ρ' =>
        rw [e2] at q
        exact fun dx H' Hz' es' ez2 x S r => q dx σ H' Hz' es' (ez.trans ez2) (Fix.refl _ _) x S r.swap4.tail
      | ok x ρ2 =>
        rw [e2] at q
        dsimp only [RE.bindS] at q
        intro u H2 Hz2 es2 ez2 k2 S2 o2
        cases e4 : intD x with
        | none => rw [e4] at q; exact q.elim
        | some kk =>
          rw [e4] at q
          unfold mutS at q
          cases e3 : mutO i p ρ2 (setK kk y) with
          | none => dsimp only at q; rw [e3] at q; exact q.elim
          | some ρ3 =>
            dsimp only at q
            rw [e3] at q
            obtain ⟨j, c1, c', F, g1, _, r3, back⟩ := mutO_ok (pre := [⟨w, y.q, y.d⟩]) e3 S2 (o2.rest.swap4) (v := v) fun root hr => (h4 root hr).same hcd k2
            unfold setK at g1
            split at g1
            · rename_i ds
              split at g1
              · rename_i n en
                split at g1
                · rename_i hk
                  cases g1
                  obtain ⟨Hz3, ez3, r4⟩ := (r3.swap).weaken j hk.2
                  obtain ⟨A, hA⟩ := r4.swap.head
                  obtain ⟨l, vs, B, rfl, _, hl, ow⟩ := hA.lst_inv
                  obtain ⟨es', S', r'⟩ := back (R.setI hk.1 r4.swap hl)
                  exact ⟨l, vs, kk, n, rfl, o2.view.int (intD_eq e4), hl, by rw [ow.length]; exact en, q σ _ Hz3 es' ((ez.trans ez2).trans ez3) (Fix.refl _ _) S' r'⟩
                · cases g1
              · cases g1
            · cases g1
    · rw [if_neg hcd] at q; exact q.elim
/-- d[k] = e -/
def putK' (x y : RV) (j : Nat) (c : D) : Option D := match c with
  | .dk ks ds => match keyOf x.d with
    | some k => if ks.Nodup ∧ ks.length < BIG ∧ (j ≤ y.q ∨ immut y.d = true) then some (.dk (putKs k ks) (putKd k y.d ks ds)) else none
    | none => none
  | .dt ks ds => match keyT x.d with
    | some k => if ks.Nodup ∧ ks.length < BIG ∧ (j ≤ y.q ∨ immut y.d = true) then some (.dt (putKs k ks) (putKd k y.d ks ds)) else none
    | none => none
  | _ => none
def sDpS (sk : Bool) (lc : LF) (fk fy : EF) : SF := fun ρ => (fy ρ).bindS fun y ρ0 => if y.b = true then .stuck else match lc ρ0 with
  | .ok i p ρ1 => if sk = true ∨ p = [] then (fk ρ1).bindS fun x ρ2 => mutS i p ρ2 (putK' x y) else .stuck
  | .stuck => .stuck
theorem ss_dput {tpos : Pos} {fyE : Expr} (hu : X.A.units + 1 < cLine) (hc : SE X W s fyE fy) (ha : SL X a lc) (hb : SE X W sk b fk) (hs : swapsWith fyE (some (.Subscript a b tpos)) pos.line X.env = pure false := by rfl) : SS X W U (.Assign [.Subscript a b tpos] fyE pos) (sDpS sk lc fk fy) := by
  refine psImp (ps_dput hu ha hb hc hs) fun Z σ H q => ?_
  refine oneS q fun w y ρ0 es0 Fr Hz0 H0 S0 o0 q => ?_
  by_cases hyb : y.b = true
  · rw [if_pos hyb] at q; exact q.elim
  rw [if_neg hyb] at q
  have o0' := o0.own (by simpa using hyb)
  refine ⟨ρ0, es0, ⟨w, y.q, y.d⟩ :: Fr, Hz0, S0, o0'.swap3, ?_⟩
  cases e : lc ρ0 with
  | stuck => rw [e] at q; exact q.elim
  | ok i p ρ1 =>
    rw [e] at q
    dsimp only at q ⊢
    intro v H1 Hz1 es1 c m d ez k S1 r1 h1 h2 h3 h4
    by_cases hcd : sk = true ∨ p = []
    · rw [if_pos hcd] at q
      refine ⟨ρ1, es1, ⟨w, y.q, y.d⟩ :: Fr, Hz1, S1, r1, ?_⟩
      cases e2 : fk ρ1 with
      | stuck => rw [e2] at q; exact q.elim
      | exc C ns xs ρ' =>
        rw [e2] at q
        exact fun dx H' Hz' es' ez2 x S r => q dx σ H' Hz' es' (ez.trans ez2) (Fix.refl _ _) x S r.swap4.tail
      | ok x ρ2 =>
        rw [e2] at q
        dsimp only [RE.bindS] at q
        intro u H2 Hz2 es2 ez2 k2 S2 o2
        unfold mutS at q
        cases e3 : mutO i p ρ2 (putK' x y) with
        | none => rw [e3] at q; exact q.elim
        | some ρ3 =>
          rw [e3] at q
          obtain ⟨j, c1, c', F, g1, _, r3, back⟩ := mutO_ok (pre := [⟨w, y.q, y.d⟩]) e3 S2 (o2.rest.swap4) (v := v) fun root hr => (h4 root hr).same hcd k2
          unfold putK' at g1
          split at g1
          · rename_i ks ds
            split at g1
            · rename_i kk ek
              split at g1
              · rename_i hk
                cases g1
                obtain ⟨Hz3, ez3, r4⟩ := (r3.swap).weaken j hk.2.2
                obtain ⟨A, hA⟩ := r4.swap.head
                obtain ⟨l, vs, B, rfl, _, hl, ll, ow⟩ := hA.dk_inv
                obtain ⟨es', S', r'⟩ := back (R.putDk hk.1 r4.swap hl ll)
                have ew := keyOf_ok (o2.view.imm (keyOf_imm ek)) ek
                refine ⟨l, _, rfl, ?_, q σ _ Hz3 es' ((ez.trans ez2).trans ez3) (Fix.refl _ _) S' r'⟩
                rw [ew]
                exact DPut.k hl (by rw [List.length_zip, ← ll, Nat.min_self]; exact big_lt hk.2.1)
              · cases g1
            · cases g1
          · rename_i ks ds
            split at g1
            · rename_i kk ek
              split at g1
              · rename_i hk
                cases g1
                obtain ⟨Hz3, ez3, r4⟩ := (r3.swap).weaken j hk.2.2
                obtain ⟨A, hA⟩ := r4.swap.head
                obtain ⟨l, vs, B, rfl, _, hl, ll, ow⟩ := hA.dt_inv
                obtain ⟨es', S', r'⟩ := back (R.putDt hk.1 r4.swap hl ll)
                obtain ⟨b', rfl, hb'⟩ := keyT_ok (o2.view.imm (keyT_imm ek)) ek
                refine ⟨l, _, rfl, ?_, q σ _ Hz3 es' ((ez.trans ez2).trans ez3) (Fix.refl _ _) S' r'⟩
                exact DPut.t hl (o2.rest.ex _ _ hb') (by rw [List.length_zip, ← ll, Nat.min_self]; exact big_lt hk.2.1)
              · cases g1
            · cases g1
          · cases g1
    · rw [if_neg hcd] at q; exact q.elim
/-! ### comprehensions -/
theorem ptsImp {es : List Expr} {t t' : TT} (h : PTs X es t) (i : ∀ σ H Q, t' σ H Q → t σ H Q) : PTs X es t' := ⟨fun pins s σ H Q I q => h.run pins s σ H Q I (i σ H Q q)⟩
theorem pts_yes : PTs X [] (tT X.K W true (eC (.bl true))) := ptsImp pts_nil fun σ H Q ⟨ρ, es, Fr, Hz, S, r, q⟩ => by
  obtain ⟨c, e, h⟩ := q (.bl true) H Hz es (Ex.refl _) (fun _ => Ex.refl _) S (.pure (.bl true) r)
  cases e
  exact h
/-- the block's context -/
abbrev blkX (X : Cx) (scope : Scope) (s : Shared) (H : Hp) (C : Addr) (cl : List (Str × Addr)) (fp : List Addr) : Cx := X.blk s H scope (compEnvC scope cl C X.env) fp
theorem se_lc {elt tg iter : Expr} {ifs : List Expr} {scope : Scope} {own : List (Str × Nat)} {t : Tg} {fi' : IF} {ft fe : EF} (hc : X.calm = true) (hN : X.N.Nodup) (hi : SI X W sa tg iter fi') (ok : BlkOk X.N X.env.scope scope own)
    (hg : ∀ s H C cl fp, PG (blkX X scope s H C cl fp) tg (gT X.K t)) (ht : ∀ s H C cl fp, PTs (blkX X scope s H C cl fp) ifs (tT X.K W0 sb ft)) (he : ∀ s H C cl fp, SE (blkX X scope s H C cl fp) W0 sc elt fe)
    (hv : ∀ i ∈ t.all, i ∈ own.map (·.2) := by decide) (hs : s = true → sa = true ∧ sb = true ∧ sc = true := by first | exact fun _ => ⟨rfl, rfl, rfl⟩ | (intro z; cases z)) (hf : ∀ x, foldedSetIterable iter X.env x = pure x := by intro _; rfl) :
    SE X W s (.ListComp elt [⟨tg, iter, ifs, 0⟩] scope pos) (eLc (own.map (·.2)) t fi' ft fe) :=
  peImp (pe_lc hc hN hi ok hg ht he hf) fun σ H Q q => Pd.lc_core hv hs q
theorem ss_setLc {i : Nat} {y : Str} {py : Pos} {elt tg iter : Expr} {ifs : List Expr} {scope : Scope} {own : List (Str × Nat)} {spos : Pos} {t : Tg} {fi' : IF} {ft fe : EF} (hc : X.calm = true) (hN : X.N.Nodup) (hy : X.N[i]? = some y) (hyl : X.env.scope.names.lookup y = some .local)
    (hsw : swapsWith (.ListComp elt [⟨tg, iter, ifs, 0⟩] scope pos) (some (.Name y py)) spos.line X.env = pure true) (hi : SI X W sa tg iter fi') (ok : BlkOk X.N X.env.scope scope own)
    (hg : ∀ s H C cl fp, PG (blkX X scope s H C cl fp) tg (gT X.K t)) (ht : ∀ s H C cl fp, PTs (blkX X scope s H C cl fp) ifs (tT X.K W0 sb ft)) (he : ∀ s H C cl fp, SE (blkX X scope s H C cl fp) W0 sc elt fe)
    (hv : ∀ i ∈ t.all, i ∈ own.map (·.2) := by decide) (hu : i ∉ U := by decide) (hf : ∀ x, foldedSetIterable iter X.env x = pure x := by intro _; rfl) :
    SS X W U (.Assign [.Name y py] (.ListComp elt [⟨tg, iter, ifs, 0⟩] scope pos) spos) (sAs i (eLc (own.map (·.2)) t fi' ft fe)) :=
  psImp (ps_setLc (te := tE X.K W0 sc fe) hc hN hy hyl hsw hi ok hg ht he hf) fun Z σ H q => by
    have q' : tAsg (tE X.K W false (eLc (own.map (·.2)) t fi' ft fe)) (gName i) Z σ H := asg_core hu q
    exact Pd.lc_core (s := false) hv (fun z => by cases z) q'
end
end Pd
end
section
/-! Pd: a law's facts, its defs, its end. -/
namespace Pd
open PySem L2 PyProof.Rows PySem.Spec
/-! ### the head's facts -/
/-- C.m read off the class C -/
def uokB (K : PySem.W.Frag) (p : Str × Str) : Bool := decide (PySem.W.specialIn K (.ref (He.ga K p.1)) "__getattribute__" = some (some (.builtin "type.__getattribute__"))) && (PySem.W.readsIn K (He.ga K p.1) (.type "type") &&
  (PySem.W.keepIn K (.ref (He.ma K (He.ga K p.1) p.2)) && (match PySem.W.findCls K (.ref (He.ga K p.1)) (.type "type") p.2 with
    | some (.val (.ref g)) => decide (g = He.ma K (He.ga K p.1) p.2)
    | _ => false)))
theorem uok_ok {K : PySem.W.Frag} {x m : Str} (h : uokB K (x, m) = true) : UOk K (He.ga K x) (He.ma K (He.ga K x) m) m := by
  obtain ⟨h1, h⟩ := He.ba h
  obtain ⟨h2, h⟩ := He.ba h
  obtain ⟨h3, h4⟩ := He.ba h
  refine ⟨of_decide_eq_true h1, ⟨_, h2, ?_⟩, h3⟩
  revert h4
  generalize PySem.W.findCls K (.ref (He.ga K x)) (.type "type") m = r
  intro h4
  split at h4
  · rename_i g
    rw [of_decide_eq_true h4]
  · cases h4
/-- what else is asked of the head -/
inductive Ck where
  | uok (C m : Str)
  | al (x m y : Str)
def Ck.ok (K : PySem.W.Frag) : Ck → Bool
  | .uok C m => uokB K (C, m)
  | .al x m y => decide (He.ma K (He.ga K x) m = He.ma K (He.ga K y) m)
def obsC (fa : List He.Fa) (us : List Ck) (fn : List He.DefD) (K : PySem.W.Frag) : He.AlD := ((fa.all fun f => f.ok K) && ((fn.all fun d => d.ok K) && us.all (Ck.ok K)), fn.map fun d => He.fnW K d.at_)
def asC (g : Addr → Option Obj) (n : Nat) : List Addr := He.asD g n ++ [cStatics]
def obsCG (n : Nat) (fa : List He.Fa) (us : List Ck) (fn : List He.DefD) (g : Addr → Option Obj) : He.AlD := obsC fa us fn (He.frG g (asC g n))
structure Says (fa : List He.Fa) (us : List Ck) (fn : List He.DefD) (K : PySem.W.Frag) : Prop where
  eq : obsC fa us fn K = He.valD fn
def hookC (n : Nat) (fa : List He.Fa) (us : List Ck) (fn : List He.DefD) : PySem.W.Hook where
  α := He.AlD
  obs := fun s => obsCG n fa us fn s.heap.get?
  val := fun _ => He.valD fn
  says := fun _ h => ∃ K : PySem.W.Frag, K.In h ∧ Says fa us fn K
  of := fun _ _ e => ⟨_, He.frG_in, ⟨e⟩⟩
  keeps := fun _ _ _ ⟨K, hK, c⟩ k => ⟨K, PySem.W.Frag.In.keeps hK k, c⟩
theorem obsCG_eq {n : Nat} {fa : List He.Fa} {us : List Ck} {fn : List He.DefD} {g : Addr → Option Obj} {s : Shared} (h : ∀ a, g a = s.heap.get? a) : obsCG n fa us fn g = (hookC n fa us fn).obs s := by
  have e : g = s.heap.get? := funext h
  rw [e] <;> rfl
/-- what the head tells -/
structure Fx (fa : List He.Fa) (us : List Ck) (fn : List He.DefD) (K : PySem.W.Frag) (mg : Str → Option Value) : Prop where
  ex : ∃ h : Heap, K.In h ∧ h.Ns mainGlobals mg
  says : Says fa us fn K
section
variable {fa : List He.Fa} {us : List Ck} {fn : List He.DefD} {K : PySem.W.Frag} {mg : Str → Option Value}
theorem Fx.fact (F : Fx fa us fn K mg) (i : Nat) {f : He.Fa} (h : fa[i]? = some f := by rfl) : f.ok K = true := by
  have c1 := (He.ba (show ((fa.all fun f => f.ok K) && ((fn.all fun d => d.ok K) && us.all (Ck.ok K))) = true from congrArg (fun z : He.AlD => z.1) F.says.eq)).1
  exact List.all_eq_true.mp c1 f (List.mem_of_getElem? h)
theorem Fx.uok (F : Fx fa us fn K mg) (i : Nat) {x m : Str} (h : us[i]? = some (.uok x m) := by rfl) : UOk K (He.ga K x) (He.ma K (He.ga K x) m) m := by
  have c1 := (He.ba (He.ba (show ((fa.all fun f => f.ok K) && ((fn.all fun d => d.ok K) && us.all (Ck.ok K))) = true from congrArg (fun z : He.AlD => z.1) F.says.eq)).2).2
  exact uok_ok (List.all_eq_true.mp c1 (.uok x m) (List.mem_of_getElem? h))
theorem Fx.al (F : Fx fa us fn K mg) (i : Nat) {x m y : Str} (h : us[i]? = some (.al x m y) := by rfl) : He.ma K (He.ga K x) m = He.ma K (He.ga K y) m := by
  have c1 := (He.ba (He.ba (show ((fa.all fun f => f.ok K) && ((fn.all fun d => d.ok K) && us.all (Ck.ok K))) = true from congrArg (fun z : He.AlD => z.1) F.says.eq)).2).2
  exact of_decide_eq_true (List.all_eq_true.mp c1 (.al x m y) (List.mem_of_getElem? h))
theorem Fx.def_ (F : Fx fa us fn K mg) (i : Nat) {d : He.DefD} (h : fn[i]? = some d := by rfl) : ∃ fd, FunD K d.name d.qual d.params d.body d.scope (d.dvs K) (d.kws K) (He.fAd K d.at_) fd := by
  have c2 := (He.ba (He.ba (show ((fa.all fun f => f.ok K) && ((fn.all fun d => d.ok K) && us.all (Ck.ok K))) = true from congrArg (fun z : He.AlD => z.1) F.says.eq)).2).1
  have e : fn.map (fun d => He.fnW K d.at_) = fn.map He.DefD.val := congrArg (fun z : He.AlD => z.2) F.says.eq
  have e2 : (fn.map fun d => He.fnW K d.at_)[i]? = (fn.map He.DefD.val)[i]? := by rw [e]
  rw [List.getElem?_map, List.getElem?_map, h] at e2
  exact He.DefD.funD (Option.some.inj e2) (List.all_eq_true.mp c2 d (List.mem_of_getElem? h))
theorem Fx.glo (F : Fx fa us fn K mg) (i : Nat) {x : Str} (h : fa[i]? = some (.glo x) := by rfl) : mg x = some (.ref (He.ga K x)) := F.ex.elim fun _ q => He.glo_ok q.1 q.2 (F.fact i h)
theorem Fx.free (F : Fx fa us fn K mg) (i : Nat) {x : Str} (h : fa[i]? = some (.free x) := by rfl) : mg x = none := F.ex.elim fun _ q => He.free_ok q.1 q.2 (F.fact i h)
theorem Fx.int (F : Fx fa us fn K mg) (i : Nat) {x : Str} {n : Int} (h : fa[i]? = some (.int x n) := by rfl) : ∃ t, mg x = some (.int n t) := F.ex.elim fun _ q => He.int_ok q.1 q.2 (F.fact i h)
theorem Fx.cls (F : Fx fa us fn K mg) (i : Nat) {x : Str} (h : fa[i]? = some (.cls x) := by rfl) : Cls K (He.ga K x) := He.cls_ok (F.fact i h)
theorem Fx.noat (F : Fx fa us fn K mg) (i : Nat) {x f : Str} (h : fa[i]? = some (.noat x f) := by rfl) : NoAttr K (He.ga K x) f := He.noat_ok (F.fact i h)
theorem Fx.meth (F : Fx fa us fn K mg) (i : Nat) {x m : Str} (h : fa[i]? = some (.meth x m) := by rfl) : Meth K (He.ga K x) m (He.ma K (He.ga K x) m) := He.meth_ok (F.fact i h)
theorem Fx.mkr (F : Fx fa us fn K mg) (i : Nat) {x : Str} (h : fa[i]? = some (.mkr x) := by rfl) : Mk K (He.ga K x) (He.ma K (He.ga K x) "__init__") := He.mkr_ok (F.fact i h)
theorem Fx.keep (F : Fx fa us fn K mg) (i : Nat) {x : Str} (h : fa[i]? = some (.keep x) := by rfl) : PySem.W.keepIn K (.ref (He.ga K x)) = true := F.fact i h
end
/-! ### a def of the law -/
structure DefOk (P : Program) (w : World) (K : PySem.W.Frag) (mg : Str → Option Value) (base : Heap) (k : Nat) (f : Addr) (np : Nat) (dfl : List D) (cl : List RV → RC) : Prop where
  nps : ∀ ys, cl ys ≠ .stuck → ys.length = np
  ex : ∃ fd ps, FnOk P w K mg base (L2.CX P w) k f fd ps (spF K np cl) ∧ ∀ j, j ≤ dfl.length → ∃ dvs ds, Binds K fd ps ds ∧ Vals dvs ds ∧ ∀ H, RpL K H dvs (dfl.drop j)
  kp : PySem.W.keepIn K (.ref f) = true
section
variable {P : Program} {w : World} {K : PySem.W.Frag} {mg : Str → Option Value} {base : Heap} {k np : Nat} {f : Addr} {dfl : List D} {cl : List RV → RC}
theorem DefOk.callee {X : Cx} {k' : Nat} (h : DefOk X.prog X.w X.K X.mg X.base k f np dfl cl) (j : Nat) (hj : j ≤ dfl.length := by decide) (hk : k ≤ k' := by decide) : Callee X k' f np cl (dfl.drop j) := by
  obtain ⟨n, ⟨fd, ps, F, b⟩, _⟩ := h
  obtain ⟨dvs, ds, b1, b2, b3⟩ := b j hj
  exact ⟨⟨fd, ps, dvs, ds, F.mono hk, b1, b2, b3⟩, n⟩
/-- the values that fill up -/
def dvD : He.Dv → D
  | .non => .non
  | .bl b => .bl b
  | .int i => .int i
  | .str x => .str x
  | _ => .non
def dvOk : He.Dv → Bool
  | .non => true | .bl _ => true | .int _ => true | .str _ => true
  | _ => false
theorem dv_rp : ∀ {l : List He.Dv}, l.all dvOk = true → ∀ H, RpL K H (l.map (He.Dv.v K)) (l.map dvD)
  | [], _, H => .nil
  | d :: l, h, H => by
    rw [List.all_cons, Bool.and_eq_true] at h
    refine .cons ?_ (dv_rp h.2 H)
    cases d <;> first | exact .non | exact .bl _ | exact .int _ | exact .str _ | cases h.1
def ioIx (io : List Bool) : List Nat := (List.range io.length).filter fun i => io[i]? == some true
theorem ioIx_ok {io : List Bool} : ∀ i : Nat, io[i]? = some true → i ∈ ioIx io := fun i h => by
  unfold ioIx
  rw [List.mem_filter, List.mem_range]
  exact ⟨(List.getElem?_eq_some_iff.mp h).1, by rw [h]; rfl⟩
/-- U: the parameters that are lent -/
theorem def_law {d : He.DefD} {N ps : List Str} {k : Nat} {fc : FnC} {fd : FuncData} (F : FunD K d.name d.qual d.params d.body d.scope (d.dvs K) (d.kws K) (He.fAd K d.at_) fd) (S : FnScope N ps d.scope)
    (hn : ps.length = fc.np) (hN : N.length = fc.ns) (hio : fc.io.length = fc.np) (hdv : d.dfl.all dvOk = true)
    (hbd : ∀ j, j ≤ d.dfl.length → ∃ ds, Vals ((d.dvs K).drop j) ds ∧ Binds K fd ps ds)
    (hb : ∀ (cdv : Value) (A : Around) (outer : List Env) (s : Shared) (H : Hp) (E : XK), Room k (A.deeper (envOfC d.qual d.scope s.heap.objs.size (He.fAd K d.at_) cdv)) →
      SB (cxOf (L2.CX P w) P w K mg base N d.qual d.scope (He.fAd K d.at_) cdv A outer s H E) (fun cls d _ H => E cls d H) (ioIx fc.io) d.body fc.body) : DefOk P w K mg base (k + 1) (He.fAd K d.at_) fc.np (d.dfl.map dvD) (runFn fc) := by
  refine ⟨fun ys => runFn_np, ⟨fd, ps, def_ok F S hn hN hio ioIx_ok hb, fun j hj => ?_⟩, F.kp⟩
  obtain ⟨ds, v, b⟩ := hbd j (by simpa using hj)
  refine ⟨_, ds, b, v, fun H => ?_⟩
  exact (dv_rp (K := K) hdv H).drop j
theorem bd0 {x qual : Str} {params : Arguments} {body : List Stmt} {scope : Scope} {kws : List (Str × V)} {fd : FuncData} {ps : List Str} {dvs : List V} {m : Nat} (hd : dvs = []) (hm : m = 0) (F : FunD K x qual params body scope dvs kws f fd)
    (h : ∀ (kV doc pm : Value) (an : Option Addr) (cdv ct : Value) (us : List Value), us.length = ps.length → bindArgs (PySem.W.fnOf x qual params body scope .none kV doc pm an cdv ct) ⟨us, []⟩ = pure (ps.zip us)) :
    ∀ j, j ≤ m → ∃ ds, Vals (dvs.drop j) ds ∧ Binds K fd ps ds := fun j hj => by
  subst hd
  exact ⟨[], by rw [List.drop_nil]; exact .nil, F.bindsN h⟩
end
/-! ### fields, methods -/
/-- the fields of the classes -/
def ftOf (l : List (Nm × List Nm)) (C : Nm) : List Nm := (l.lookup C).getD []
theorem lookup_mem {α β : Type} [BEq α] [LawfulBEq α] {a : α} {b : β} : ∀ {l : List (α × β)}, l.lookup a = some b → (a, b) ∈ l
  | [], h => by simp at h
  | (c, d) :: l, h => by
    rw [List.lookup_cons] at h
    split at h
    · rename_i e
      cases h
      rw [beq_iff_eq.mp e]
      exact List.mem_cons_self
    · exact List.mem_cons_of_mem _ (lookup_mem h)
theorem nm_inj (f n : Nm) (h : n.str = f.str) : n = f := Nm.str_inj h
theorem fld_ok {K : PySem.W.Frag} {l : List (Nm × List Nm)} (h : ∀ p ∈ l, Cls K (ca K p.1) ∧ ∀ f ∈ p.2, NoAttr K (ca K p.1) f.str) : FldOk K (ftOf l) := ⟨fun C f hf => by
  unfold ftOf at hf
  cases e : l.lookup C with
  | none => rw [e] at hf; cases hf
  | some fs =>
    rw [e] at hf
    obtain ⟨h1, h2⟩ := h _ (lookup_mem e)
    exact ⟨h1, h2 f hf⟩, nm_inj⟩
abbrev MRow := Nm × Nat × (List RV → RC) × List D
def mtOf (l : List MRow) : MTab := fun C => l.lookup C
theorem mt_ok {X : Cx} {k : Nat} {m : Str} {l : List MRow} (h : ∀ p ∈ l, MOk X k (ca X.K p.1) m p.2.1 p.2.2.1 p.2.2.2) : ∀ C np cl dfl, mtOf l C = some (np, cl, dfl) → MOk X k (ca X.K C) m np cl dfl := fun C np cl dfl e => h _ (lookup_mem e)
theorem mok {X : Cx} {k np : Nat} {C : Addr} {m : Str} {g g' : Addr} {cl : List RV → RC} {dfl : List D} (c : Cls X.K C) (h : Meth X.K C m g) (e : g = g') (F : Callee X k g' np cl dfl) : MOk X k C m np cl dfl := ⟨c, g, h, e ▸ F⟩
/-! ### list(d), d a dict with tuple keys -/
section
variable {K : PySem.W.Frag} {Hz H : Hp}
mutual
theorem Own.notup : ∀ {m : Nat} {v : V} {d : D} {A : List Addr}, Own K Hz H m v d A → ∀ a ∈ A, ∀ vs, H a ≠ some (.tup vs)
  | _, _, _, _, .fz _ _, a, ha => absurd ha (by simp)
  | _, _, _, _, .lst h r, a, ha => (List.mem_cons.mp ha).elim (fun e vs q => by rw [e, h] at q; cases q) (OwnL.notup r a)
  | _, _, _, _, .dk h _ r, a, ha => (List.mem_cons.mp ha).elim (fun e vs q => by rw [e, h] at q; cases q) (OwnL.notup r a)
  | _, _, _, _, .dt h _ r, a, ha => (List.mem_cons.mp ha).elim (fun e vs q => by rw [e, h] at q; cases q) (OwnL.notup r a)
  | _, _, _, _, .ins h _ r, a, ha => (List.mem_cons.mp ha).elim (fun e vs q => by rw [e, h] at q; cases q) (OwnL.notup r a)
  | _, _, _, _, .lkt h, a, ha => fun vs q => by rw [List.mem_singleton.mp ha, h] at q; cases q
theorem OwnL.notup : ∀ {m : Nat} {vs : List V} {ds : List D} {A : List Addr}, OwnL K Hz H m vs ds A → ∀ a ∈ A, ∀ vs, H a ≠ some (.tup vs)
  | _, _, _, _, .nil, a, ha => absurd ha (by simp)
  | _, _, _, _, .cons h r, a, ha => (List.mem_append.mp ha).elim (Own.notup h a) (OwnL.notup r a)
end
theorem OwnE.notup : ∀ {es : List Ent} {A : List Addr}, OwnE K Hz H es A → ∀ a ∈ A, ∀ vs, H a ≠ some (.tup vs)
  | _, _, .nil, a, ha => absurd ha (by simp)
  | _, _, .cons h r, a, ha => (List.mem_append.mp ha).elim (h.notup a) (OwnE.notup r a)
/-- a tuple that lies there is frozen -/
theorem R.adopt {es : List Ent} {b : Addr} {vs : List V} (r : R K es Hz H) (hb : H b = some (.tup vs)) : ∃ Hz', Ex Hz Hz' ∧ R K es Hz' H ∧ Hz' b = some (.tup vs) := by
  obtain ⟨ex, A, o, n, z⟩ := r
  have hbA : b ∉ A := fun h => o.notup b h vs hb
  have ez : Ex Hz (upd Hz b (.tup vs)) := fun a u e => by
    by_cases c : a = b
    · subst c
      have := ex _ _ e
      rw [hb] at this
      rw [upd_same]; exact this
    · rw [upd_ne c]; exact e
  refine ⟨upd Hz b (.tup vs), ez, ⟨fun a u e => ?_, A, o.mono ez fun _ _ => rfl, n, fun a ha => ?_⟩, upd_same⟩
  · by_cases c : a = b
    · subst c; rw [upd_same] at e; rw [hb]; exact e
    · rw [upd_ne c] at e; exact ex _ _ e
  · rw [upd_ne (fun (c : a = b) => hbA (by rw [← c]; exact ha))]; exact z a ha
def keyD : Key → D
  | .inl i => .int i
  | .inr x => .str x
theorem keyD_rp (k : Key) : Rp K H (kV k) (keyD k) := by cases k <;> first | exact .int _ | exact .str _
theorem keysD_rp : ∀ ks : List Key, RpL K H (ks.map kV) (ks.map keyD)
  | [] => .nil
  | k :: ks => .cons (keyD_rp k) (keysD_rp ks)
theorem adopt_keys {es : List Ent} : ∀ {kvs : List (List Key × V)} {bs : List Addr} {Hz : Hp}, R K es Hz H → IsKeys H kvs bs → ∃ Hz', Ex Hz Hz' ∧ R K es Hz' H ∧ RpL K Hz' (bs.map V.ref) (kvs.map fun p => D.tup (p.1.map keyD))
  | _, _, Hz, r, .nil => ⟨Hz, Ex.refl _, r, .nil⟩
  | _, _, Hz, r, .cons h t => by
    obtain ⟨Hz1, e1, r1, h1⟩ := r.adopt h
    obtain ⟨Hz2, e2, r2, l⟩ := adopt_keys r1 t
    exact ⟨Hz2, e1.trans e2, r2, .cons ((Rp.tup h1 (keysD_rp _)).mono e2) l⟩
def oListT : Op1 := fun x => match x.d with
  | .dt ks _ => some ⟨1, false, .lst (ks.map fun k => .tup (k.map keyD))⟩
  | _ => none
theorem ok_listT : Ok1 K (fun xs H Q => ∃ d kvs, xs = [V.ref d] ∧ Rd H d (.dT kvs) ∧ ∀ p bs, H p = none → IsKeys H kvs bs → Q (.ref p) (upd H p (.lst (bs.map V.ref)))) oListT := by
  intro v x z es Hz H Q r hx hz q
  unfold oListT at hz
  split at hz
  · rename_i ks ds e
    cases hz
    obtain ⟨a, vs, A, rfl, h1, l, ow⟩ := hx.dt r.ex e
    refine ⟨a, _, rfl, .inl h1, fun p bs hp hk => ?_⟩
    obtain ⟨Hz1, e1, r1, l1⟩ := adopt_keys r hk
    have ek : ((ks.zip vs).map fun p => D.tup (p.1.map keyD)) = ks.map fun k => D.tup (k.map keyD) := by
      have := List.map_fst_zip (l₁ := ks) (l₂ := vs) (by omega)
      have e2 : ((ks.zip vs).map fun p => D.tup (p.1.map keyD)) = ((ks.zip vs).map Prod.fst).map fun k => D.tup (k.map keyD) := by rw [List.map_map]; rfl
      rw [e2, this]
    rw [ek] at l1
    exact q _ _ Hz1 e1 (Ex.new hp) (new_lst r1 hp l1)
  · cases hz
end
theorem bt_len : bootBuiltins "len" = some (.builtin "len") := by decide +kernel
theorem bt_abs : bootBuiltins "abs" = some (.builtin "abs") := by decide +kernel
theorem bt_sum : bootBuiltins "sum" = some (.builtin "sum") := by decide +kernel
theorem bt_min : bootBuiltins "min" = some (.builtin "min") := by decide +kernel
theorem bt_max : bootBuiltins "max" = some (.builtin "max") := by decide +kernel
theorem bt_any : bootBuiltins "any" = some (.builtin "any") := by decide +kernel
theorem bt_all : bootBuiltins "all" = some (.builtin "all") := by decide +kernel
theorem bt_sorted : bootBuiltins "sorted" = some (.builtin "sorted") := by decide +kernel
theorem bt_isinstance : bootBuiltins "isinstance" = some (.builtin "isinstance") := by decide +kernel
theorem bt_list : bootBuiltins "list" = some (.type "list") := by decide +kernel
theorem bt_tuple : bootBuiltins "tuple" = some (.type "tuple") := by decide +kernel
theorem bt_int : bootBuiltins "int" = some (.type "int") := by decide +kernel
theorem bt_bool : bootBuiltins "bool" = some (.type "bool") := by decide +kernel
theorem bt_str : bootBuiltins "str" = some (.type "str") := by decide +kernel
/-! ### what is left of the rules -/
section
variable {X : Cx} {W : WX} {U : List Nat} {s sa : Bool} {pos : Pos} {a : Expr} {fa : EF}
theorem se_gint {x : Str} {n : Int} (hm : ∃ t, X.mg x = some (.int n t)) (hg : Gl X x := by rfl) (hd : (x == ("__debug__" : Str)) = false := by decide) : SE X W s (.Name x pos) (eC (.int n)) := by
  obtain ⟨t, e⟩ := hm
  exact se_c (v := .int n) (pe_glob hg e ⟨t, rfl⟩ hd) fun _ => .int n
def oNeg : Op1 := fun x => match x.d with
  | .int i => some (pureV (.int (-i)))
  | _ => none
theorem se_neg (ha : SE X W sa a fa) (hs : s = true → sa = true := by first | exact fun _ => rfl | (intro z; cases z)) : SE X W s (.UnaryOp .USub a pos) (e1 oNeg fa) := by
  refine peImp (pe_un un_neg ha) fun σ H Q q => ?_
  refine one' (fa := fa) q hs fun v x ρ1 es1 Fr Hz1 H1 S o q => ?_
  obtain ⟨z, hz⟩ := opE_some q
  have hz' := hz
  unfold oNeg at hz
  split at hz
  · rename_i i e
    cases hz
    exact ⟨i, o.view.int e, fin2 hz' (Ex.refl _) (fun _ => Ex.refl _) S q _ H1 Hz1 (Ex.refl _) (Ex.refl _) (.pure (.int _) o.rest)⟩
  · cases hz
/-- xs[::-1] -/
def oRev : Op1 := fun x => match x.d with
  | .lst ds => if x.q ≤ 1 then some ⟨1, false, .lst ds.reverse⟩ else none
  | _ => none
theorem se_rev {k : Nat} {p1 p2 p3 : Pos} (ha : SE X W sa a fa) (hs : s = true → sa = true := by first | exact fun _ => rfl | (intro z; cases z)) : SE X W s (.Subscript a (.Slice none none (some (.UnaryOp .USub (.Constant (.int 1) k p1) p2)) p3) pos) (e1 oRev fa) := by
  refine peImp (pe_revL ha) fun σ H Q q => ?_
  refine one' (fa := fa) q hs fun v x ρ1 es1 Fr Hz1 H1 S o q => ?_
  obtain ⟨z, hz⟩ := opE_some q
  have hz' := hz
  unfold oRev at hz
  split at hz
  · rename_i ds e
    split at hz
    · rename_i c
      cases hz
      obtain ⟨a, vs, A, rfl, h1, ow⟩ := o.view.lst o.rest.ex e
      exact ⟨a, vs, rfl, .of h1, fun p hp => fin2 hz' (Ex.refl _) (fun _ => Ex.refl _) S q _ _ Hz1 (Ex.refl _) (Ex.new hp) (new_lst o.rest hp (ow.low c rfl).reverse)⟩
    · cases hz
  · cases hz
theorem SA.weak {W : WX} {es : List Expr} {as : List Ar} (h : SA X W true es as) : SA X W false es as := paImp h fun σ H Q ⟨ρ, es, Fr, Hz, S, r, q⟩ => ⟨ρ, es, Fr, Hz, S, r, by
  revert q
  generalize evA as ρ = rr
  intro q
  cases rr with
  | stuck => exact q
  | exc => exact q
  | ok xs ρ' => exact fun vs H' Hz' es' ez _ S l t r => q vs H' Hz' es' ez (fun z => by cases z) S l t r⟩
/-- d.get(k) -/
def isDct : D → Bool
  | .dk _ _ => true
  | .dt _ _ => true
  | _ => false
def oGet1 : Op2 := fun x y => match dGet x.d y.d with
  | some (some d) => part x d
  | some none => some (pureV .non)
  | none => none
def eGet1 (fa fb : EF) : EF := fun ρ => (fa ρ).bind fun x ρ1 => if isDct x.d = true then (fb ρ1).bind fun y ρ2 => opE (oGet1 x y) ρ2 else .stuck
theorem se_get1 {b : Expr} {fb : EF} {apos : Pos} (hu : X.A.units + 1 < cLine) (ha : SE X W sa a fa) (hb : SE X W true b fb) (m : M1 X a "get" apos b pos) (hs : s = true → sa = true := by first | exact fun _ => rfl | (intro z; cases z)) : SE X W s (.Call (.Attribute a "get" apos) [b] [] pos) (eGet1 fa fb) := by
  refine peImp (pe_dget1 hu ha hb m) fun σ H Q ⟨ρ, es, Fr, Hz, S, r, q⟩ => ?_
  refine RetE.step S r q hs fun v x ρ1 es1 Hz1 H1 ez k1 S1 o1 q => ?_
  split at q
  · rename_i hd
    have hD : ∃ a, v = .ref a ∧ IsD H1 a := by
      unfold isDct at hd
      split at hd
      · rename_i ks ds e
        obtain ⟨a, vs, A, rfl, h1, l, ow⟩ := o1.view.dk o1.rest.ex e
        exact ⟨a, rfl, .inl ⟨_, .inl h1⟩⟩
      · rename_i ks ds e
        obtain ⟨a, vs, A, rfl, h1, l, ow⟩ := o1.view.dt o1.rest.ex e
        exact ⟨a, rfl, .inr ⟨_, .inl h1⟩⟩
      · cases hd
    obtain ⟨a', rfl, hD⟩ := hD
    refine ⟨a', rfl, hD, RetE.step S1 o1.rest q (fun _ => rfl) fun w y ρ2 es2 Hz2 H2 ez2 k2 S2 o2 q2 => ?_⟩
    obtain ⟨z, hz⟩ := opE_some q2
    have hz' := hz
    have v1 := o1.view.mono ez2 (k2 rfl)
    have fin := fin2 hz' (Ex.refl _) (fun _ => Ex.refl _) S2 q2
    unfold oGet1 at hz
    split at hz
    · rename_i d e
      obtain ⟨a'', p, e1, hg, _, i1, _⟩ := dGet_ok o2.rest v1 o2.view e
      cases e1
      obtain ⟨u, B, rfl, hB⟩ := i1 d rfl
      exact ⟨_, hg, fin u H2 Hz2 (Ex.refl _) (Ex.refl _) (part_ok o2.rest hB hz)⟩
    · rename_i e
      cases hz
      obtain ⟨a'', p, e1, hg, _, _, i2⟩ := dGet_ok o2.rest v1 o2.view e
      cases e1
      rw [i2 rfl] at hg
      exact ⟨_, hg, fin .non H2 Hz2 (Ex.refl _) (Ex.refl _) (.pure .non o2.rest)⟩
    · cases hz
  · exact q.elim
/-- a list handed on as one that is read only -/
def eFrl (fa : EF) : EF := fun ρ => (fa ρ).bind fun x ρ1 => match x.d with
  | .lst ds => if x.b = true then .stuck else .ok (pureV (.frl ds)) ρ1
  | _ => .ok x ρ1
theorem se_frl {e : Expr} (h : SE X W s e fa) : SE X W s e (eFrl fa) := by
  refine peImp h fun σ H Q ⟨ρ, es, Fr, Hz, S, r, q⟩ => ⟨ρ, es, Fr, Hz, S, r, ?_⟩
  unfold eFrl at q
  cases e : fa ρ with
  | stuck => rw [e] at q; exact q
  | exc C ns xs ρ' => rw [e] at q; exact q
  | ok x ρ' =>
    rw [e] at q
    dsimp only [RE.bind] at q
    intro v H' Hz' es' ez k S' o
    split at q
    · rename_i ds ed
      split at q
      · exact q.elim
      · rename_i hb
        obtain ⟨Hz2, ez2, r2⟩ := (o.own (by simpa using hb)).weaken 0 (.inl (Nat.zero_le _))
        have rp := r2.rp0
        rw [ed] at rp
        cases rp with
        | lst g1 rl => exact q _ H' Hz2 es' (ez.trans ez2) k S' (.pure (.frl (.of g1) rl) r2.tail)
    · exact q v H' Hz' es' ez k S' o
/-- a try whose body raises nothing -/
def sTry (f : SF) : SF := fun ρ => match f ρ with
  | .exc _ _ _ _ => .stuck
  | r => r
theorem ss_try {body : List Stmt} {h0 : ExceptHandler} {hs : List ExceptHandler} {f : SF} (hb : SB X.nox (fun _ _ _ _ => False) U body f) : SS X W U (.Try body (h0 :: hs) [] [] pos) (sTry f) := by
  refine psImp (ps_try_thru0 hb) fun D σ H ⟨ρ, es, Fr, Hz, S, r, q⟩ => ⟨ρ, es, Fr, Hz, S, r, ?_⟩
  unfold sTry at q
  cases e : f ρ with
  | exc C ns xs ρ' => rw [e] at q; exact q.elim
  | _ => rw [e] at q; exact q
theorem pgT_nm {x : Str} {p : Pos} (i : Nat) (hN : X.N.Nodup) (hi : X.N[i]? = some x := by rfl) (hx : Loc X.env.scope x := by first | exact Or.inl rfl | exact Or.inr rfl) (hf : X.fn x = true ∨ X.env.scope.names.lookup x = some .local := by first | exact .inl rfl | exact .inr rfl) : PG X (.Name x p) (gT X.K (.nm i)) := pg_name hN hi hx hf
end
def blkB (N : List Str) (sc scope : Scope) (own : List (Str × Nat)) : Bool := decide (scope.kind = .function) && (scope.names.all (fun y => decide (scope.names.lookup y.1 = some y.2)) && (own.all (fun p => decide (N[p.2]? = some p.1)) &&
  (scope.names.all (fun y => !decide (y.2 = .free) || (decide (sc.names.lookup y.1 = some .cell) || decide (sc.names.lookup y.1 = some .free))) && scope.names.all (fun y => !(decide (y.2 = .local) || decide (y.2 = .cell)) || (decide (y.1 ∈ own.map (·.1)) || !decide (y.1 ∈ N))))))
theorem blk_ok {N : List Str} {sc scope : Scope} {own : List (Str × Nat)} (h : blkB N sc scope own = true) : BlkOk N sc scope own := by
  unfold blkB at h
  simp only [Bool.and_eq_true, List.all_eq_true, decide_eq_true_eq, Bool.or_eq_true, Bool.not_eq_true', decide_eq_false_iff_not] at h
  obtain ⟨h1, h2, h3, h4, h5⟩ := h
  exact ⟨h1, h2, h3, fun y hy e => (h4 y hy).elim (fun z => absurd e z) id, fun y hy e => (h5 y hy).elim (fun z => by rcases e with e | e <;> simp [e] at z) id⟩
/-! ### walks over lists and tuples alike -/
section
variable {X : Cx} {W : WX} {s : Bool} {a tg : Expr} {fa : EF}
def iAny (K : PySem.W.Frag) (tl : TE) : TI := fun σ H R => tl σ H fun x H1 => ∃ a, x = .ref a ∧ (((∃ xs, SqL K H1 a xs) ∧ R (Itl K a) H1) ∨ ((∃ xs, SqT K H1 a xs) ∧ R (Itt K a) H1))
theorem pi_any {l : Expr} {tl : TE} (hl : PE X l tl) : PI X tg l (iAny X.K tl) := by
  refine ⟨fun pins s σ H R I h => ?_⟩
  refine thn (hl.run pins s σ H _ I h) fun v s1 ⟨x, H1, I1, r1, a, e, q⟩ => ?_
  subst e
  cases r1
  have born := I1.hok.fresh (Nat.le_refl _)
  rcases q with ⟨⟨ws, hw⟩, go⟩ | ⟨⟨ws, hw⟩, go⟩
  · obtain ⟨us, _, pl, _⟩ := I1.list hw
    refine wpAny_pyIter_list pl.isList ⟨_, [_], _, _, H1, rfl, ?_, turn_list a _, ⟨_, Heap.get?_push_size _ rfl, rfl, rfl⟩, ?_, go⟩
    · exact I1.kept (t' := s1.toks) fun c u hc => Heap.get?_push_of_some _ hc
    · intro c hc
      rw [List.mem_singleton.mp hc]
      exact I1.fpOk (Nat.le_refl _) born
  · obtain ⟨us, _, pl, _⟩ := I1.tuple hw
    refine wpAny_pyIter_tuple (show s1.heap.IsTuple a us.toArray from pl) ⟨_, [_], _, _, H1, rfl, ?_, turn_tuple a _, ⟨_, Heap.get?_push_size _ rfl, rfl, rfl⟩, ?_, go⟩
    · exact I1.kept (t' := s1.toks) fun c u hc => Heap.get?_push_of_some _ hc
    · intro c hc
      rw [List.mem_singleton.mp hc]
      exact I1.fpOk (Nat.le_refl _) born
def iA (fa : EF) : IF := fun ρ => (fa ρ).bindI fun x ρ1 => if x.b = true then .stuck else match x.d with
  | .lst ds => if x.q ≤ 1 then .ok ds x ρ1 else .stuck
  | .frl ds => .ok ds x ρ1
  | .tup ds => .ok ds (pureV x.d) ρ1
  | _ => .stuck
theorem si_any (ha : SE X W s a fa) : SI X W s tg a (iA fa) := by
  refine piImp (pi_any ha) fun σ H Q q => ?_
  refine oneI q _root_.id fun v x ρ1 es1 Fr Hz1 H1 S o q => ?_
  split at q
  · exact q.elim
  · rename_i hb
    have o' := o.own (by simpa using hb)
    split at q
    · rename_i ds e
      split at q
      · rename_i c
        obtain ⟨a, vs, A, rfl, h1, ow⟩ := o.view.lst o.rest.ex e
        exact ⟨a, rfl, .inl ⟨⟨vs, .of h1⟩, q _ _ H1 Hz1 es1 (Ex.refl _) (fun _ => Ex.refl _) S o' (walks_lst e c)⟩⟩
      · exact q.elim
    · rename_i ds e
      obtain ⟨a, vs, rfl, h1, l⟩ := o.view.frl e
      exact ⟨a, rfl, .inl ⟨⟨vs, o.rest.ex.sql h1⟩, q _ _ H1 Hz1 es1 (Ex.refl _) (fun _ => Ex.refl _) S o' (walks_frl (vs := vs) e)⟩⟩
    · rename_i ds e
      have rz := o.view.imm (by rw [e]; rfl)
      obtain ⟨a, vs, rfl, h1, l⟩ := o.view.tup e
      exact ⟨a, rfl, .inr ⟨⟨vs, .of (o.rest.ex _ _ h1)⟩, q _ (.ref a) H1 Hz1 es1 (Ex.refl _) (fun _ => Ex.refl _) S (o.rest.put (.inl rfl) rz) (walks_tup (x := pureV x.d) e)⟩⟩
    · exact q.elim
end
/-! ### the law's end -/
theorem frl_ints {K : PySem.W.Frag} {Hz : Hp} {a : Addr} {ns : List Int} (h : SqL K Hz a (ns.map V.int)) : Rp K Hz (.ref a) (.frl (ns.map D.int)) := .frl h (rpl_ints ns)
theorem end_law {K : PySem.W.Frag} {cl : List RV → RC} {n : Nat} (h : ∀ ns : List Int, ns.length ≤ n → ∃ os, cl [pureV (.frl (ns.map .int))] = .ok (pureV (.bl true)) os) : ∀ (H : Hp) (a : Addr) (ns : List Int), ns.length ≤ n → SqL K H a (ns.map V.int) → spF K 1 cl [.ref a] H (fun v _ => v = .bl true) fun _ _ _ => False := by
  intro H a ns hn hs
  obtain ⟨os, e⟩ := h ns hn
  refine ⟨[pureV (.frl (ns.map .int))], [], H, rfl, rfl, ?_, ?_⟩
  · refine R.put (.inl rfl) (frl_ints hs) ⟨Ex.refl _, [], .nil, List.nodup_nil, fun a ha => by cases ha⟩
  · rw [e]
    refine ⟨rfl, fun v H' Hz' ez r => ?_⟩
    have := R.imm (d := .bl true) rfl r
    cases this
    rfl
end Pd
end
section
/-! Pd: a comprehension over the keys of a dict that is a variable's field; the dict is locked meanwhile. -/
namespace Pd
open PySem L2 PyProof.Rows PySem.Spec
def keyTD (k : List Key) : D := .tup (k.map keyD)
def lckOut (r : RE) : Option (List D) := match r with
  | .ok ⟨1, false, .lst out⟩ _ => some out
  | _ => none
/-- the comprehension, the dict's place taken -/
def lckRun (vs : List Nat) (t : Tg) (i : Nat) (C : Nm) (ns : List Nm) (ds : List D) (j : Nat) (ks : List (List Key)) (fe : EF) (ρ : Vr) (x : V) : RE :=
  compL vs t (eC (.bl true)) fe (ks.map keyTD) [] (wipeV (ρ.set i (some (2, .ins C ns (ds.set j (.hole x))))) vs)
open Classical in
noncomputable def eLcK (ft : Nm → List Nm) (vs : List Nat) (t : Tg) (i : Nat) (n : Nm) (fe : EF) : EF := fun ρ => match ρ[i]? with
  | some (some (2, .ins C ns ds)) => match ixNm n ns with
    | some j => match ds[j]? with
      | some (.dt ks es) => match lckOut (lckRun vs t i C ns ds j ks fe ρ .non) with
        | some out => if n ∈ ft C ∧ i ∉ vs ∧ ∀ x, lckRun vs t i C ns ds j ks fe ρ x = .ok ⟨1, false, .lst out⟩ (wipeV (ρ.set i (some (2, .ins C ns (ds.set j (.hole x))))) vs) then .ok ⟨1, false, .lst out⟩ (wipeV ρ vs) else .stuck
        | none => .stuck
      | _ => .stuck
    | none => .stuck
  | _ => .stuck
theorem wipeV_get {ρ : Vr} {i : Nat} : ∀ {vs : List Nat}, i ∉ vs → (wipeV ρ vs)[i]? = ρ[i]?
  | [], _ => rfl
  | v :: vs, h => by
    unfold wipeV
    rw [List.getElem?_set_ne (fun (e : v = i) => h (by rw [e]; exact List.mem_cons_self)), wipeV_get fun q => h (List.mem_cons_of_mem _ q)]
theorem wipeV_set {ρ : Vr} {i : Nat} {x : Slot} : ∀ {vs : List Nat}, i ∉ vs → wipeV (ρ.set i x) vs = (wipeV ρ vs).set i x
  | [], _ => rfl
  | v :: vs, h => by
    unfold wipeV
    rw [wipeV_set fun q => h (List.mem_cons_of_mem _ q), List.set_comm]
    exact fun (e : i = v) => h (by rw [e]; exact List.mem_cons_self)
section
variable {X : Cx} {W : WX} {s sb sc : Bool} {pos apos : Pos} {K : PySem.W.Frag}
theorem walks_lkt {b : Addr} {od : Obj} {kvs : List (List Key × V)} : Walks K (Itkt b od kvs) (.ref b) ⟨1, false, .lkt od kvs⟩ (kvs.map fun p => keyTD p.1) := by
  intro i es Hz H r
  obtain ⟨A, hA⟩ := r.head
  have hb : H b = some (.frz od (.dT kvs)) := by
    have := hA.rp r.ex
    cases this with
    | lkt h => exact h
  refine ⟨fun d hd => ?_, fun hl => ⟨hb, by simpa using hl⟩⟩
  rw [List.getElem?_map] at hd
  obtain ⟨p, hp, rfl⟩ := Option.map_eq_some_iff.mp hd
  refine ⟨⟨hb, (List.getElem?_eq_some_iff.mp hp).1⟩, fun x H' hy => ?_⟩
  obtain ⟨rfl, k, v, q, h1, rfl, h2⟩ := hy
  rw [hp] at h1
  cases h1
  obtain ⟨Hz', e1, r1, h3⟩ := r.adopt h2
  exact ⟨Hz', e1, Ex.refl _, .tup h3 (keysD_rp _), r1⟩
theorem lck_core {ft : Nm → List Nm} {vs : List Nat} {t : Tg} {fe : EF} {σ : L2.St} {H : Hp} {Q : VK} (F : FldOk X.K ft) (i : Nat) (n : Nm) (hv : ∀ i ∈ t.all, i ∈ vs) (q : tE X.K W false (eLcK ft vs t i n fe) σ H Q) :
    tLockE (tLc (iKeys (tFld X.K (tVar i) n.str)) (gT X.K t) (tT X.K W0 true (eC (.bl true))) (tE X.K W0 sc fe) vs) σ H Q := by
  obtain ⟨ρ, es, Fr, Hz, S, r, q⟩ := q
  unfold eLcK at q
  split at q
  · rename_i C ns ds e1
    split at q
    · rename_i j e2
      split at q
      · rename_i ks ess e3
        split at q
        · rename_i out e4
          split at q
          · rename_i c
            obtain ⟨c1, c2, c3⟩ := c
            obtain ⟨root, es', h1, h2, h3⟩ := S.take e1
            have r1 := r.perm (mid h2)
            obtain ⟨A, hA⟩ := r1.head
            obtain ⟨a, dx, vvs, B, rfl, _, ha, l, ow⟩ := Own.ins_inv (m := 1) hA
            obtain ⟨v, B', hvj, hvB⟩ := ow.getV e3
            obtain ⟨b, ws, B'', rfl, _, hbH, lk, owk⟩ := Own.dt_inv (m := 0) hvB
            have hat : AtV H (.ref a) [j] (.ref b) := ⟨a, _, .ref b, rfl, ha, by
              show (((ns.map Nm.str).zip vvs).map Prod.snd)[j]? = some (.ref b)
              rw [zip_snd (by rw [List.length_map]; exact l)]
              exact hvj, rfl⟩
            have hgp : getP (.ins C ns ds) [j] = some (.dt ks ess) := by
              show (ds[j]?).bind (fun c => getP c []) = _
              rw [e3]; rfl
            have r2 := r1.at hat hgp (by simp)
            have esp : setP (.ins C ns ds) [j] (.hole (.ref b)) = .ins C ns (ds.set j (.hole (.ref b))) := rfl
            rw [esp] at r2
            refine ⟨b, _, hbH, trivial, fun od => ?_⟩
            have r3 : R X.K (⟨.ref b, 1, .lkt od (ks.zip ws)⟩ :: (⟨.ref a, 2, .ins C ns (ds.set j (.hole (.ref b)))⟩ :: (es' ++ Fr))) Hz (upd H b (.frz od (.dT (ks.zip ws)))) := by
              refine R.change2 (fs := []) (es := ⟨.ref a, 2, .ins C ns (ds.set j (.hole (.ref b)))⟩ :: (es' ++ Fr)) (d := .dt ks ess) r2 fun A C' hA hC n => ?_
              obtain ⟨b', ws', B3, eb, rfl, h4, _, ow4⟩ := Own.dt_inv (m := 0) hA
              cases eb
              cases hC
              obtain ⟨rfl, _⟩ := ow4.zero
              exact ⟨[b], [], by simp, List.mem_cons_self, .lkt upd_same⟩
            have hzv : RpL X.K Hz ws ess := owk.zero.2
            have hi : i < ρ.length := (List.getElem?_eq_some_iff.mp e1).1
            obtain ⟨es3, S3, p3⟩ := h3.put (v := .ref a) (m := 2) (d := .ins C ns (ds.set j (.hole (.ref b)))) (by rw [List.getElem?_set_self hi]) h1
            rw [List.set_set] at S3
            have r4 : R X.K (⟨.ref b, 1, .lkt od (ks.zip ws)⟩ :: (es3 ++ Fr)) Hz (upd H b (.frz od (.dT (ks.zip ws)))) := r3.perm ((mid p3).symm.cons _)
            have ha2 : upd H b (.frz od (.dT (ks.zip ws))) a = some (.ins (ca X.K C) dx ((ns.map Nm.str).zip vvs)) := by
              rw [upd_ne fun e => by rw [e, hbH] at ha; cases ha]; exact ha
            obtain ⟨k1, k2⟩ := F.cls C n c1
            refine ⟨.ref a, h1, a, _, dx, _, .ref b, rfl, ha2, k1, k2, ixNm_ok (F.inj n) e2 hvj, b, od, rfl, .inr ⟨ks.zip ws, upd_same, ?_⟩⟩
            have ekv : ((ks.zip ws).map fun p => keyTD p.1) = ks.map keyTD := by
              have := List.map_fst_zip (l₁ := ks) (l₂ := ws) (by omega)
              have e5 : ((ks.zip ws).map fun p => keyTD p.1) = ((ks.zip ws).map Prod.fst).map keyTD := by rw [List.map_map]; rfl
              rw [e5, this]
            have wk := walks_lkt (K := X.K) (b := b) (od := od) (kvs := ks.zip ws)
            rw [ekv] at wk
            have c4 := c3 (.ref b)
            unfold lckRun at c4
            refine lc_coreH (s := false) (sb := true) (sc := sc) (ft := eC (.bl true)) (fe := fe) (Fr := Fr) (W := W) (Q := fun v H' => H' b = some (.frz od (.dT (ks.zip ws))) ∧ Q v (upd H' b (.dT (ks.zip ws)))) hv (fun z => by cases z) S3 r4 wk ?_
            rw [c4]
            intro v2 H' Hz' es4 ez _ S4 o4
            have r5 := o4.own rfl
            have r6 : R X.K (⟨.ref b, 1, .lkt od (ks.zip ws)⟩ :: ⟨v2, 1, .lst out⟩ :: (es4 ++ Fr)) Hz' H' := (r5.perm (List.perm_middle.cons _)).swap
            obtain ⟨A4, hA4⟩ := r6.head
            have hb4 : H' b = some (.frz od (.dT (ks.zip ws))) := by
              have := hA4.rp r6.ex
              cases this with
              | lkt h => exact h
            refine ⟨hb4, ?_⟩
            have r7 : R X.K (⟨.ref b, 1, .dt ks ess⟩ :: ⟨v2, 1, .lst out⟩ :: (es4 ++ Fr)) Hz' (upd H' b (.dT (ks.zip ws))) := by
              refine R.change2 (fs := []) (es := ⟨v2, 1, .lst out⟩ :: (es4 ++ Fr)) (d := .lkt od (ks.zip ws)) r6 fun A C' hA hC n => ?_
              cases hC
              cases hA with
              | fz cc rr => rcases cc with cc | cc <;> cases cc
              | lkt h =>
                refine ⟨[b], [], by simp, List.mem_cons_self, ?_⟩
                exact Own.dt (m := 0) upd_same lk (OwnL.of_zero 0 (RpL.mono ez hzv))
            -- back in its place
            have e6 : (wipeV (ρ.set i (some (2, .ins C ns (ds.set j (.hole (.ref b)))))) vs)[i]? = some (some (2, .ins C ns (ds.set j (.hole (.ref b))))) := by
              rw [wipeV_get c2, List.getElem?_set_self hi]
            obtain ⟨root4, es5, g1, g2, g3⟩ := S4.take e6
            have er : root4 = .ref a := by
              rw [h1] at g1; cases g1; rfl
            subst er
            have r8 : R X.K (⟨.ref b, 1, .dt ks ess⟩ :: ⟨.ref a, 2, setP (.ins C ns ds) [j] (.hole (.ref b))⟩ :: (⟨v2, 1, .lst out⟩ :: (es5 ++ Fr))) Hz' (upd H' b (.dT (ks.zip ws))) := by
              refine r7.perm (List.Perm.cons _ ?_)
              refine ((mid g2).cons _).trans ?_
              exact List.Perm.swap _ _ _
            have r9 := R.unat (p := [j]) (m := 2) (c0 := .dt ks ess) r8 hgp (by simp)
            have ed : setP (.ins C ns ds) [j] (.dt ks ess) = .ins C ns ds := by
              show D.ins C ns (ds.set j _) = _
              have : ds.set j (.dt ks ess) = ds := by
                apply List.ext_getElem?
                intro k
                by_cases hk : j = k
                · subst hk; rw [List.getElem?_set_self (List.getElem?_eq_some_iff.mp e3).1, e3]
                · rw [List.getElem?_set_ne hk]
              exact congrArg (D.ins C ns) this
            rw [ed] at r9
            have hl2 : i < (wipeV ρ vs).length := by
              have := wipeV_get (ρ := ρ) c2
              rw [e1] at this
              exact (List.getElem?_eq_some_iff.mp this).1
            obtain ⟨es6, S6, p6⟩ := g3.put (v := .ref a) (m := 2) (d := .ins C ns ds) (by rw [wipeV_set c2, List.set_set, List.getElem?_set_self hl2]) h1
            have eρ : (((wipeV (ρ.set i (some (2, .ins C ns (ds.set j (.hole (.ref b)))))) vs).set i none).set i (some (2, .ins C ns ds))) = wipeV ρ vs := by
              rw [wipeV_set c2, List.set_set, List.set_set]
              apply List.ext_getElem?
              intro k
              by_cases hk : i = k
              · subst hk; rw [List.getElem?_set_self hl2, wipeV_get c2, e1]
              · rw [List.getElem?_set_ne hk]
            rw [eρ] at S6
            refine q v2 _ Hz' es6 ez (fun z => by cases z) S6 (.of rfl ?_)
            have r10 : R X.K (⟨v2, 1, .lst out⟩ :: ⟨.ref a, 2, .ins C ns ds⟩ :: (es5 ++ Fr)) Hz' (upd H' b (.dT (ks.zip ws))) := r9.swap
            exact r10.perm ((mid p6).symm.cons _)
          · exact q.elim
        · exact q.elim
      · exact q.elim
    · exact q.elim
  · exact q.elim
theorem se_lck {ft : Nm → List Nm} {elt tg : Expr} {scope : Scope} {own : List (Str × Nat)} {t : Tg} {fe : EF} {x : Str} {p : Pos} (F : FldOk X.K ft) (i : Nat) (n : Nm) (hc : X.calm = true) (hN : X.N.Nodup) (hNi : X.N[i]? = some x := by rfl) (hvis : Vis X.env.scope x := by first | exact Or.inl rfl | exact Or.inr (Or.inl rfl) | exact Or.inr (Or.inr rfl))
    (ok : BlkOk X.N X.env.scope scope own) (hg : ∀ s H C cl fp, PG (blkX X scope s H C cl fp) tg (gT X.K t)) (he : ∀ s H C cl fp, SE (blkX X scope s H C cl fp) W0 sc elt fe) (hv : ∀ i ∈ t.all, i ∈ own.map (·.2) := by decide)
    (hd : (x == ("__debug__" : Str)) = false := by decide) (hcd : (x == ("__classdict__" : Str)) = false := by decide)
    (hb : attributeBase (.Name x p) n.str X.env (eval (.Name x p) X.env) = eval (.Name x p) X.env := by rfl) (hf : ∀ z, foldedSetIterable (.Attribute (.Name x p) n.str apos) X.env z = pure z := by intro _; rfl) :
    SE X W false (.ListComp elt [⟨tg, .Attribute (.Name x p) n.str apos, [], 0⟩] scope pos) (eLcK ft (own.map (·.2)) t i n fe) :=
  peImp (pe_lock (pe_lc (tt := tT X.K W0 true (eC (.bl true))) (te := tE X.K W0 sc fe) hc hN (pi_keys (pe_fld (pv i hNi hvis hd hcd) hb)) ok hg (fun s H C cl fp => pts_yes (X := blkX X scope s H C cl fp) (W := W0)) he hf)) fun σ H Q q => lck_core F i n hv q
theorem ss_setLcK {U : List Nat} {y : Str} {py spos : Pos} {ft : Nm → List Nm} {elt tg : Expr} {scope : Scope} {own : List (Str × Nat)} {t : Tg} {fe : EF} {x : Str} {p : Pos} (k : Nat) (F : FldOk X.K ft) (i : Nat) (n : Nm) (hc : X.calm = true) (hN : X.N.Nodup) (hy : X.N[k]? = some y := by rfl) (hyl : X.env.scope.names.lookup y = some .local := by rfl)
    (hNi : X.N[i]? = some x := by rfl) (hvis : Vis X.env.scope x := by first | exact Or.inl rfl | exact Or.inr (Or.inl rfl) | exact Or.inr (Or.inr rfl))
    (hsw : swapsWith (.ListComp elt [⟨tg, .Attribute (.Name x p) n.str apos, [], 0⟩] scope pos) (some (.Name y py)) spos.line X.env = pure true := by rfl)
    (ok : BlkOk X.N X.env.scope scope own) (hg : ∀ s H C cl fp, PG (blkX X scope s H C cl fp) tg (gT X.K t)) (he : ∀ s H C cl fp, SE (blkX X scope s H C cl fp) W0 sc elt fe) (hv : ∀ i ∈ t.all, i ∈ own.map (·.2) := by decide) (hu : k ∉ U := by decide)
    (hd : (x == ("__debug__" : Str)) = false := by decide) (hcd : (x == ("__classdict__" : Str)) = false := by decide)
    (hb : attributeBase (.Name x p) n.str X.env (eval (.Name x p) X.env) = eval (.Name x p) X.env := by rfl) (hf : ∀ z, foldedSetIterable (.Attribute (.Name x p) n.str apos) X.env z = pure z := by intro _; rfl) :
    SS X W U (.Assign [.Name y py] (.ListComp elt [⟨tg, .Attribute (.Name x p) n.str apos, [], 0⟩] scope pos) spos) (sAs k (eLcK ft (own.map (·.2)) t i n fe)) :=
  psImp (ps_lock (ps_setLc (tt := tT X.K W0 true (eC (.bl true))) (te := tE X.K W0 sc fe) hc hN hy hyl hsw (pi_keys (pe_fld (pv i hNi hvis hd hcd) hb)) ok hg (fun s H C cl fp => pts_yes (X := blkX X scope s H C cl fp) (W := W0)) he hf)) fun Z σ H q => by
    have q' : tAsg (tE X.K W false (eLcK ft (own.map (·.2)) t i n fe)) (gName k) Z σ H := asg_core hu q
    exact lck_core (Q := fun v H1 => gName k v σ H1 Z.nx) F i n hv q'
end
end Pd
end
section
/-! Pd: a list of anything held against an empty one. -/
namespace Pd
open PySem L2 PyProof.Rows PySem.Spec
def rEqN (K : PySem.W.Frag) (neg : Bool) : R2 := fun x y H Q => ∃ a b xs, x = .ref a ∧ y = .ref b ∧ SqL K H a xs ∧ SqL K H b [] ∧ Q (.bl (xs.isEmpty != neg)) H
section
variable {X : Cx}
theorem op_eqN (hu : X.A.units + 64 < cLine) : OpR X (compareOp .Eq) (rEqN X.K false) := by
  intro pins s σ H x y v u Q I rx ry h
  obtain ⟨a, b, xs, rfl, rfl, ha, hb, q⟩ := h
  cases xs with
  | nil => exact op_eqD hu pins s σ H _ _ v u Q I rx ry ⟨.list [], .list [], .lst ha .nil, .lst hb .nil, by decide +kernel, by decide +kernel, by simpa [PyData.eqv, PyData.eqvAll] using q⟩
  | cons z zs =>
    cases (show v = Value.ref a from rx)
    cases (show u = Value.ref b from ry)
    obtain ⟨us, r1, p1, _⟩ := I.list ha
    obtain ⟨ws, r2, p2, _⟩ := I.list hb
    have hsz : (us.toArray.size != ws.toArray.size) = true := by
      rw [List.size_toArray, List.size_toArray, ← r1.length, ← r2.length]; simp
    exact SeqAt.RcAt.lists_lengths p1.isList p2.isList hsz (Nat.lt_of_le_of_lt (Nat.le_add_right _ 64) hu) X.prog X.w _ _ ⟨.bl false, H, I, rfl, q⟩
theorem op_neN (hu : X.A.units + 64 < cLine) : OpR X (compareOp .NotEq) (rEqN X.K true) := by
  intro pins s σ H x y v u Q I rx ry h
  obtain ⟨a, b, xs, rfl, rfl, ha, hb, q⟩ := h
  cases xs with
  | nil => exact op_neD hu pins s σ H _ _ v u Q I rx ry ⟨.list [], .list [], .lst ha .nil, .lst hb .nil, by decide +kernel, by decide +kernel, by simpa [PyData.eqv, PyData.eqvAll] using q⟩
  | cons z zs =>
    cases (show v = Value.ref a from rx)
    cases (show u = Value.ref b from ry)
    obtain ⟨us, r1, p1, _⟩ := I.list ha
    obtain ⟨ws, r2, p2, _⟩ := I.list hb
    have hsz : (us.toArray.size != ws.toArray.size) = true := by
      rw [List.size_toArray, List.size_toArray, ← r1.length, ← r2.length]; simp
    exact SeqAt.RcNeAt.lists_lengths p1.isList p2.isList hsz (Nat.lt_of_le_of_lt (Nat.le_add_right _ 64) hu) X.prog X.w _ _ ⟨.bl true, H, I, rfl, q⟩
end
def oEqN (neg : Bool) : Op2 := fun x y => match lsOf x.d, lsOf y.d with
  | some ds, some [] => some (pureV (.bl (ds.isEmpty != neg)))
  | _, _ => none
theorem ok_eqN {K : PySem.W.Frag} {neg : Bool} : OpOk K (rEqN K neg) (oEqN neg) := by
  intro v w x y z es Hz H Q r hx hy hz q
  unfold oEqN at hz
  split at hz
  · rename_i ds e1 e2
    cases hz
    obtain ⟨a, vs, A, m, rfl, h1, ow⟩ := ls_ok r.ex hx e1
    obtain ⟨b, ws, B, m', rfl, h2, ow2⟩ := ls_ok r.ex hy e2
    have ew : ws = [] := List.length_eq_zero_iff.mp ow2.length
    have ev : vs.isEmpty = ds.isEmpty := by
      have hl := ow.length
      cases vs <;> cases ds <;> first | rfl | simp at hl
    subst ew
    refine ⟨a, b, vs, rfl, rfl, h1, h2, ?_⟩
    rw [ev]
    exact q _ H Hz (Ex.refl _) (Ex.refl _) (.pure (.bl _) r)
  · cases hz
section
variable {q q' : Nat} {b b' neg : Bool} {ds : List D}
@[simp] theorem oEqN_l : oEqN neg ⟨q, b, .lst ds⟩ ⟨q', b', .lst []⟩ = some (pureV (.bl (ds.isEmpty != neg))) := rfl
end
end Pd
end
section
/-! Pd: a comprehension over a list that a variable owns, and owns again behind it. -/
namespace Pd
open PySem L2 PyProof.Rows PySem.Spec
def eLcB (vs : List Nat) (t : Tg) (i : Nat) (ft fe : EF) : EF := fun ρ => match ρ[i]? with
  | some (some (1, .lst ds)) => if i ∉ vs then match compL vs t ft fe ds [] (wipeV (ρ.set i none) vs) with
    | .ok x ρ' => match ρ'[i]? with
      | some none => .ok x (ρ'.set i (some (1, .lst ds)))
      | _ => .stuck
    | _ => .stuck
    else .stuck
  | _ => .stuck
section
variable {X : Cx} {W : WX} {s sb sc : Bool} {pos : Pos} {K : PySem.W.Frag}
theorem lcb_core {vs : List Nat} {t : Tg} {ft fe : EF} {σ : L2.St} {H : Hp} {Q : VK} (i : Nat) (hv : ∀ i ∈ t.all, i ∈ vs) (q : tE K W false (eLcB vs t i ft fe) σ H Q) :
    tLc (iList K (tVar i)) (gT K t) (tT K W0 sb ft) (tE K W0 sc fe) vs σ H Q := by
  obtain ⟨ρ, es, Fr, Hz, S, r, q⟩ := q
  unfold eLcB at q
  split at q
  · rename_i ds e1
    split at q
    · rename_i c
      obtain ⟨v, es', h1, h2, h3⟩ := S.take e1
      have r1 := r.perm (mid h2)
      obtain ⟨A, hA⟩ := r1.head
      obtain ⟨a, vs', B, rfl, _, ha, ow⟩ := hA.lst_inv
      refine ⟨.ref a, h1, a, rfl, ⟨vs', .of ha⟩, ?_⟩
      refine lc_coreH (s := false) (sb := sb) (sc := sc) (ft := ft) (fe := fe) (Fr := Fr) (W := W) (hold := ⟨1, false, .lst ds⟩) (items := ds) hv (fun z => by cases z) h3 r1 (walks_lst rfl (Nat.le_refl 1)) ?_
      revert q
      generalize compL vs t ft fe ds [] (wipeV (ρ.set i none) vs) = rr
      intro q
      cases rr with
      | stuck => exact q.elim
      | exc C ns xs ρ' => exact q.elim
      | ok x ρ' =>
        dsimp only at q
        split at q
        · rename_i e2
          intro v2 H' Hz' es4 ez k S4 o4
          obtain ⟨es5, S5, p5⟩ := S4.put (v := .ref a) (m := 1) (d := .lst ds) e2 h1
          refine q v2 H' Hz' es5 ez k S5 (o4.perm ?_)
          exact (List.perm_middle).trans ((mid p5).symm)
        · exact q.elim
    · exact q.elim
  · exact q.elim
theorem se_lcB {elt tg : Expr} {ifs : List Expr} {scope : Scope} {own : List (Str × Nat)} {t : Tg} {ft fe : EF} {x : Str} {p : Pos} (i : Nat) (hc : X.calm = true) (hN : X.N.Nodup) (hNi : X.N[i]? = some x := by rfl) (hvis : Vis X.env.scope x := by first | exact Or.inl rfl | exact Or.inr (Or.inl rfl) | exact Or.inr (Or.inr rfl))
    (ok : BlkOk X.N X.env.scope scope own) (hg : ∀ s H C cl fp, PG (blkX X scope s H C cl fp) tg (gT X.K t)) (ht : ∀ s H C cl fp, PTs (blkX X scope s H C cl fp) ifs (tT X.K W0 sb ft)) (he : ∀ s H C cl fp, SE (blkX X scope s H C cl fp) W0 sc elt fe) (hv : ∀ i ∈ t.all, i ∈ own.map (·.2) := by decide)
    (hd : (x == ("__debug__" : Str)) = false := by decide) (hcd : (x == ("__classdict__" : Str)) = false := by decide) (hf : ∀ z, foldedSetIterable (.Name x p) X.env z = pure z := by intro _; rfl) :
    SE X W false (.ListComp elt [⟨tg, .Name x p, ifs, 0⟩] scope pos) (eLcB (own.map (·.2)) t i ft fe) :=
  peImp (pe_lc (tt := tT X.K W0 sb ft) (te := tE X.K W0 sc fe) hc hN (pi_list (pv i hNi hvis hd hcd)) ok hg ht he hf) fun σ H Q q => lcb_core i hv q
end
theorem run_lcB {vs : List Nat} {t : Tg} {i : Nat} {ft fe : EF} {ρ : Vr} : eLcB vs t i ft fe ρ = (match ρ[i]? with
  | some (some (1, .lst ds)) => if i ∉ vs then match compL vs t ft fe ds [] (wipeV (ρ.set i none) vs) with
    | .ok x ρ' => match ρ'[i]? with
      | some none => .ok x (ρ'.set i (some (1, .lst ds)))
      | _ => .stuck
    | _ => .stuck
    else .stuck
  | _ => .stuck) := rfl
end Pd
end
section
/-! Pd: tuples held against one another; a tuple sorted. -/
namespace Pd
open PySem L2 PyProof.Rows PySem.Spec
def rLtP (K : PySem.W.Frag) : R2 := fun x y H Q => ∃ d e, Dp K H x d ∧ Dp K H y e ∧ PySem.W.alike d e = true ∧ d ≠ .none ∧ min d.depth e.depth ≤ 60 ∧ Q (.bl (PySem.W.dataLt d e)) H
theorem op_ltP {X : Cx} (hu : X.A.units + 64 < cLine) : OpR X (compareOp .Lt) (rLtP X.K) := by
  intro pins s σ H x y v u Q I rx ry h
  obtain ⟨d, e, hd, he, al, hn, dp, q⟩ := h
  obtain ⟨as1, r1⟩ := Dp.reads I d x v hd rx
  obtain ⟨as2, r2⟩ := Dp.reads I e y u he ry
  exact PySem.W.rcLt_alike d e X.A s v u as1 as2 r1 r2 al hn (by omega) X.prog X.w _ _ ⟨.bl _, H, I, rfl, q⟩
def notN : PyData → Bool
  | .none => false
  | _ => true
def oLtP : Op2 := fun x y => (pyd x.d).bind fun p => (pyd y.d).bind fun q => if PySem.W.alike p q = true ∧ notN p = true ∧ min p.depth q.depth ≤ 60 then some (pureV (.bl (PySem.W.dataLt p q))) else none
theorem ok_ltP {K : PySem.W.Frag} : OpOk K (rLtP K) oLtP := by
  intro v w x y z es Hz H Q r hx hy hz q
  obtain ⟨p1, e1, hz⟩ := Option.bind_eq_some_iff.mp hz
  obtain ⟨p2, e2, hz⟩ := Option.bind_eq_some_iff.mp hz
  split at hz
  · rename_i c
    cases hz
    refine ⟨p1, p2, pyd_ok (hx.rp r.ex) e1, pyd_ok (hy.rp r.ex) e2, c.1, fun e => ?_, c.2.2, q _ H Hz (Ex.refl _) (Ex.refl _) (.pure (.bl _) r)⟩
    have := c.2.1
    rw [e] at this
    cases this
  · cases hz
/-! ### () + t -/
section
variable {prog : Program} {w : World} {A : Around} {E : Value → Shared → Prop} {s : Shared}
theorem cat_tup0 {t b : Addr} {ws : List Value} {Q : Value → Shared → Prop} (ht : s.heap.IsTuple t (#[] : Array Value)) (hb : s.heap.IsTuple b ws.toArray) (fin : Q (.ref b) s) : wpAny (model prog w) A (binaryOp .Add (.ref t) (.ref b)) Q E s := by
  obtain ⟨⟨c1, dd, d1, sl⟩, ho, hc, n, hd⟩ := id ht
  obtain ⟨⟨c2, dd2, d2, sl2⟩, ho2, hc2, n2, hd2⟩ := id hb
  cases hc; cases hd; cases hc2; cases hd2
  exact concat_meets ⟨_, ho, rfl⟩ ⟨_, ho2, rfl⟩ noFill_tuple_add seq_tuple_add PySem.F.slot_tuple_add PySem.F.entry_tuple_add (PySem.F.args_tuple_add_2 _ _) (tuple_addW0 t b #[] ws.toArray n n2 dd dd2 sl sl2 rfl) ⟨ho, ho2, fin⟩
end
def rCat0 (K : PySem.W.Frag) : R2 := fun x y H Q => ∃ a b ys, x = .ref a ∧ y = .ref b ∧ SqT K H a [] ∧ SqT K H b ys ∧ Q (.ref b) H
theorem op_cat0 {X : Cx} : OpR X (binaryOp .Add) (rCat0 X.K) := by
  intro pins s σ H x y v u Q I rx ry h
  obtain ⟨a, b, ys, rfl, rfl, ha, hb, q⟩ := h
  cases rx
  cases ry
  obtain ⟨its, r1, p1, _⟩ := I.tuple ha
  obtain ⟨its2, r2, p2, _⟩ := I.tuple hb
  have e := r1.nil_iff.mpr rfl
  subst e
  exact cat_tup0 (show s.heap.IsTuple a #[] from p1) (show s.heap.IsTuple b its2.toArray from p2) ⟨.ref b, H, I, rfl, q⟩
def rAddU (K : PySem.W.Frag) : R2 := fun x y H Q => rAddA K x y H Q ∨ rCat0 K x y H Q
theorem op_addU {X : Cx} : OpR X (binaryOp .Add) (rAddU X.K) := op_addA.or op_cat0
def oAddU : Op2 := fun x y => match x.d, y.d with
  | .tup [], .tup ys => some (pureV (.tup ys))
  | _, _ => oAdd x y
theorem ok_addU {K : PySem.W.Frag} : OpOk K (rAddU K) oAddU := by
  intro v w x y z es Hz H Q r hx hy hz q
  unfold oAddU at hz
  split at hz
  · rename_i ys e1 e2
    cases hz
    obtain ⟨a, vs, rfl, h1, o1⟩ := hx.tup e1
    obtain ⟨b, ws, rfl, h2, o2⟩ := hy.tup e2
    cases o1
    exact .inr ⟨a, b, ws, rfl, rfl, .of (r.ex _ _ h1), .of (r.ex _ _ h2), q _ H Hz (Ex.refl _) (Ex.refl _) (.pure (.tup h2 o2) r)⟩
  · exact .inl (ok_add v w x y z es Hz H Q r hx hy hz q)
/-! ### sorted of a tuple -/
section
variable {prog : Program} {w : World} {A : Around} {E : Value → Shared → Prop} {s : Shared}
theorem coll_tup {l : Addr} {vs : List Value} {Q : List Value → Shared → Prop} (ht : s.heap.IsTuple l vs.toArray) (hz : vs.length ≤ sizeLine)
    (fin : Q vs { s with heap := (s.heap.push (seqObj "list" #[] 0)).update s.heap.objs.size (Obj.mapSeq (· ++ vs.toArray)) }) : wpAny (model prog w) A (collect (.ref l)) Q E s := by
  obtain ⟨o, ho, hc, n, hd⟩ := id ht
  unfold collect
  refine wpAny_bind (wpAny_runValue (codeAny_builtin entry_proto_collect' ?_)); show wpAny _ _ (do again (.builtin "list.__iadd__" ⟨[← newList [], .ref l], []⟩)) _ _ s
  refine wpAny_bind (wpAny_newList (wpAny_pure ⟨Code.quiet_builtin _ (by decide +kernel), codeAny_builtin entry_list_iadd' ?_⟩)); show wpAny _ _ (Builtin.List.listExtendWith (.ref s.heap.objs.size) (.ref l) (.ref s.heap.objs.size)) _ _ { s with heap := s.heap.push (seqObj "list" #[] 0) }
  unfold Builtin.List.listExtendWith
  have hp : (s.heap.push (seqObj "list" #[] 0)).get? l = some o := Heap.get?_push_of_some _ ho
  refine wpAny_bind (wpAny_typeOf (T := "tuple") ⟨o, hp, hc⟩ ?_); rw [if_pos (by rw [show (Value.type "tuple" == Value.type "tuple") = true by rfl]; simp)]
  refine wpAny_bind (listItems_at hp hd ?_); refine wpAny_bind (listItems_at (xs := #[]) (n := 0) (Heap.get?_push_size _ rfl) rfl ?_); rw [if_neg (by simp)]
  refine wpAny_bind (listUpdate_at (xs := #[]) (n := 0) (Heap.get?_push_size _ rfl) rfl ?_ (Nat.zero_le _) (by show (#[] ++ vs.toArray).size ≤ sizeLine + 1; simp only [Array.size_append, List.size_toArray, List.length_nil]; omega)); refine wpAny_pure ?_
  show wpAny (model prog w) A (do
      let o ← load s.heap.objs.size; match o.data with
      | .seq xs _ => pure xs.toList
      | _ => unsupported "internal:collect") Q E { s with heap := (s.heap.push (seqObj "list" #[] 0)).update s.heap.objs.size (Obj.mapSeq (· ++ vs.toArray)) }
  refine wpAny_bind (wpAny_load (get?_update_seq (Heap.get?_push_size _ rfl) _) ?_); show wpAny _ _ (pure ((#[] : Array Value) ++ vs.toArray).toList) Q E _; rw [show ((#[] : Array Value) ++ vs.toArray).toList = vs by simp]; exact wpAny_pure fin
theorem sort_tup {l : Addr} {vs : List Value} {ltv : Value → Value → Bool} {Q : Value → Shared → Prop} (O : SrtO.Swo ltv) (ht : s.heap.IsTuple l vs.toArray) (hz : vs.length ≤ sizeLine)
    (hS : 2 ≤ vs.length → ∀ (h1 : Heap) (a : Addr), h1.get? a = some (seqObj "list" vs.toArray 0) → (∀ b o, s.heap.get? b = some o → b ≠ a ∧ h1.get? b = some o) → SrtO.SortableO prog w A.in1.in1 { s with heap := h1 } a vs ltv)
    (fin : ∀ out : List Value, SrtO.Srtd ltv out → SrtO.Stb ltv out vs → Q (.ref (s.heap.objs.size + 1)) { s with heap := sortedAll s.heap vs out.toArray }) :
    wpAny (model prog w) A (call (.builtin "sorted") [.ref l]) Q E s := by
  refine Calls.call_function_entry kind_sorted plain_sorted entry_sorted (args_sorted1 _) ?_; unfold Builtin.«sorted»
  refine wpAny_bind (m := checkCount "sorted" 1 1 _) (wpAny_pure ?_); refine wpAny_bind (coll_tup ht hz ?_); refine wpAny_bind (wpAny_newList ?_ hz)
  have hn : ((s.heap.push (seqObj "list" #[] 0)).update s.heap.objs.size (Obj.mapSeq (· ++ vs.toArray))).objs.size = s.heap.objs.size + 1 := by rw [Heap.size_update, size_push']
  have hg : (((s.heap.push (seqObj "list" #[] 0)).update s.heap.objs.size (Obj.mapSeq (· ++ vs.toArray))).push (seqObj "list" vs.toArray 0)).get? (s.heap.objs.size + 1) = some (seqObj "list" vs.toArray 0) := by rw [← hn]; exact Heap.get?_push_size _ rfl
  have kp : ∀ b o, s.heap.get? b = some o → b ≠ s.heap.objs.size + 1 ∧ (((s.heap.push (seqObj "list" #[] 0)).update s.heap.objs.size (Obj.mapSeq (· ++ vs.toArray))).push (seqObj "list" vs.toArray 0)).get? b = some o := fun b o q => by
    have lt := Heap.lt_size q
    refine ⟨Nat.ne_of_lt (Nat.lt_succ_of_lt lt), Heap.get?_push_of_some _ ?_⟩; rw [Heap.get?_update_ne _ _ _ _ (Nat.ne_of_lt lt)]; exact Heap.get?_push_of_some _ q
  show wpAny _ _ _ _ _ { s with heap := ((s.heap.push (seqObj "list" #[] 0)).update s.heap.objs.size (Obj.mapSeq (· ++ vs.toArray))).push (seqObj "list" vs.toArray 0) }; rw [hn]
  refine wpAny_bind (wpAny_holding (wpAny_call_entry slot_list_sort ⟨_, hg, rfl⟩ entry_list_sort (SrtO.list_sort_ord O hg hz (fun h2 => hS h2 _ _ hg kp) fun out g1 g2 => ⟨_, rfl, ?_⟩) (args_list_sort _))); exact wpAny_pure ⟨_, rfl, fin out g1 g2⟩
end
def rSortTu (K : PySem.W.Frag) : List V → Hp → VK → Prop := fun vs H Q => ∃ (a : Addr) (ns : List Int), vs = [V.ref a] ∧ SqT K H a (ns.map V.int) ∧
  ∀ (ms : List Int) (p : Addr), ms.Perm ns → ms.Pairwise (· ≤ ·) → H p = none → Q (.ref p) (upd H p (.lst (ms.map V.int)))
theorem cr_sortTu {X : Cx} : CallR X (.builtin "sorted") (rSortTu X.K) := by
  intro pins s σ H vs us Q I r h
  obtain ⟨a, ns, rfl, hs, q⟩ := h
  obtain ⟨its, rv, hl, hz⟩ := I.tuple hs
  rw [Vals.ref1 r]
  have hi := rv.ints
  refine sort_tup SrtO.swo_int (show s.heap.IsTuple a its.toArray from hl) (by rw [← rv.length]; exact hz) (fun h2 h1 a' _ _ => SrtO.ints_sortable hi h2) fun out h1 h2 => ?_
  obtain ⟨k1, k2, k3⟩ := SrtO.ints_out hi h1 h2
  obtain ⟨ep, he⟩ := PyProof.Rows.sortedAll_at s.heap its out.toArray
  have hn : ((out.map SrtO.iv).map V.int).length ≤ sizeLine := by
    rw [List.length_map] at hz ⊢
    rw [k2.length_eq]; exact hz
  exact ⟨.ref _, upd H (s.heap.objs.size + 1) (.lst ((out.map SrtO.iv).map V.int)), I.laid (t' := s.toks) (fun _ _ => PyProof.Rows.sortedAll_old) (Nat.le_succ _) ⟨hn, out, ep, vals_of_ints k1, he⟩, rfl, q _ _ k2 k3 (I.hok.fresh (Nat.le_succ _))⟩
def oSortTu : Op1 := fun x => match x.d with
  | .tup ds => (dInts ds).map fun ns => ⟨1, false, .lst ((sortI ns).map .int)⟩
  | _ => none
theorem dInts_rp {K : PySem.W.Frag} {H : Hp} : ∀ {vs : List V} {ds : List D} {ns : List Int}, RpL K H vs ds → dInts ds = some ns → vs = ns.map V.int
  | _, _, _, .nil, e => by simp [dInts] at e; subst e; rfl
  | _, _, _, .cons (d := d) h r, e => by
    cases h <;> simp [dInts] at e
    obtain ⟨ms, h1, rfl⟩ := e
    rw [dInts_rp r h1]; rfl
theorem ok_sortTu {K : PySem.W.Frag} : Ok1 K (rSortTu K) oSortTu := by
  intro v x z es Hz H Q r hx hz q
  unfold oSortTu at hz
  split at hz
  · rename_i ds e
    obtain ⟨ns, e2, rfl⟩ := Option.map_eq_some_iff.mp hz
    obtain ⟨a, vs, rfl, h1, l⟩ := hx.tup e
    have ev := dInts_rp l e2
    subst ev
    refine ⟨a, ns, rfl, .of (r.ex _ _ h1), fun ms p h2 h3 hp => ?_⟩
    rw [sortI_uniq h2 h3]
    exact q _ _ Hz (Ex.refl _) (Ex.new hp) (new_lst r hp (rpl_ints _))
  · cases hz
end Pd
end
section
/-! Pd: min of tuples; list.remove of tuples. -/
namespace Pd
open PySem L2 PyProof.Rows PySem.Spec
/-! data made of tuples and flat things: its tree is told by the data -/
mutual
def tpD : D → Bool
  | .non => true | .bl _ => true | .int _ => true | .str _ => true
  | .tup xs => tpL xs
  | _ => false
def tpL : List D → Bool
  | [] => true
  | d :: ds => tpD d && tpL ds
end
mutual
def unD : PyData → D
  | .none => .non | .bool b => .bl b | .int i => .int i | .str x => .str x
  | .tuple xs => .tup (unL xs)
  | .list xs => .lst (unL xs)
  | .dict _ => .non
def unL : List PyData → List D
  | [] => []
  | p :: ps => unD p :: unL ps
end
mutual
theorem un_pyd : ∀ {d : D} {p : PyData}, tpD d = true → pyd d = some p → unD p = d
  | .non, p, _, e => by simp [pyd] at e; subst e; simp [unD]
  | .bl b, p, _, e => by simp [pyd] at e; subst e; simp [unD]
  | .int i, p, _, e => by simp [pyd] at e; subst e; simp [unD]
  | .str x, p, _, e => by simp [pyd] at e; subst e; simp [unD]
  | .tup xs, p, h, e => by
    simp only [pyd] at e
    obtain ⟨ps, h1, rfl⟩ := Option.map_eq_some_iff.mp e
    simp only [tpD] at h
    simp only [unD, un_pydL h h1]
  | .lst _, _, h, _ => by simp [tpD] at h
  | .frl _, _, h, _ => by simp [tpD] at h
  | .dk _ _, _, h, _ => by simp [tpD] at h
  | .dt _ _, _, h, _ => by simp [tpD] at h
  | .ins _ _ _, _, h, _ => by simp [tpD] at h
  | .cls _, _, h, _ => by simp [tpD] at h
  | .exc _ _ _, _, h, _ => by simp [tpD] at h
  | .hole _, _, h, _ => by simp [tpD] at h
  | .lkt _ _, _, h, _ => by simp [tpD] at h
theorem un_pydL : ∀ {ds : List D} {ps : List PyData}, tpL ds = true → pydL ds = some ps → unL ps = ds
  | [], ps, _, e => by simp [pydL] at e; subst e; simp [unL]
  | d :: ds, ps, h, e => by
    simp only [pydL] at e
    obtain ⟨p, h1, e⟩ := Option.bind_eq_some_iff.mp e
    obtain ⟨qs, h2, rfl⟩ := Option.map_eq_some_iff.mp e
    simp only [tpL, Bool.and_eq_true] at h
    simp only [unL, un_pyd h.1 h1, un_pydL h.2 h2]
end
theorem tp_imm {d : D} (h : tpD d = true) : immut d = true := by cases d <;> first | rfl | simp [tpD] at h
theorem tpL_get : ∀ {ds : List D} {i : Nat} {d : D}, tpL ds = true → ds[i]? = some d → tpD d = true
  | [], _, _, _, e => by simp at e
  | a :: ds, 0, d, h, e => by
    simp only [tpL, Bool.and_eq_true] at h
    simp at e; subst e; exact h.1
  | a :: ds, i + 1, d, h, e => by
    simp only [tpL, Bool.and_eq_true] at h
    exact tpL_get h.2 (by simpa using e)
theorem pydL_get : ∀ {ds : List D} {ps : List PyData} {i : Nat} {p : PyData}, pydL ds = some ps → ps[i]? = some p → ∃ d, ds[i]? = some d ∧ pyd d = some p
  | [], ps, i, p, e, h => by simp [pydL] at e; subst e; simp at h
  | d :: ds, ps, i, p, e, h => by
    simp only [pydL] at e
    obtain ⟨q, h1, e⟩ := Option.bind_eq_some_iff.mp e
    obtain ⟨qs, h2, rfl⟩ := Option.map_eq_some_iff.mp e
    cases i with
    | zero => simp at h; subst h; exact ⟨d, rfl, h1⟩
    | succ i =>
      obtain ⟨d', e1, e2⟩ := pydL_get h2 (by simpa using h)
      exact ⟨d', by simpa using e1, e2⟩
/-! ### min -/
def alB (ps : List PyData) : Bool := ps.all fun x => notN x && ps.all fun y => PySem.W.alike x y
theorem alB_ok {ps : List PyData} (h : alB ps = true) : PySem.W.AlikeAll ps := by
  unfold alB at h
  rw [List.all_eq_true] at h
  refine ⟨fun x hx y hy => ?_, fun x hx e => ?_⟩
  · have := h x hx
    rw [Bool.and_eq_true, List.all_eq_true] at this
    exact this.2 y hy
  · have := h x hx
    rw [e] at this
    simp [notN] at this
def rMinP (K : PySem.W.Frag) : List V → Hp → VK → Prop := fun vs H Q => ∃ (a : Addr) (xs : List V) (p : PyData) (ps : List PyData), vs = [V.ref a] ∧ SqL K H a xs ∧ DpAll K H xs (p :: ps) ∧ PySem.W.AlikeAll (p :: ps) ∧ PyData.depthAll (p :: ps) ≤ 60 ∧ PyData.canLayAll0 (p :: ps) = true ∧
  ∀ (i : Nat) (v : V), xs[i]? = some v → (p :: ps)[i]? = some (PySem.W.minD p ps) → Q v H
theorem canLay_get : ∀ {ps : List PyData} {i : Nat} {p : PyData}, PyData.canLayAll0 ps = true → ps[i]? = some p → p.canLay0 = true
  | [], _, _, _, e => by simp at e
  | a :: ps, 0, p, h, e => by
    simp only [PyData.canLayAll0, Bool.and_eq_true] at h
    simp at e; subst e; exact h.1
  | a :: ps, i + 1, p, h, e => by
    simp only [PyData.canLayAll0, Bool.and_eq_true] at h
    exact canLay_get h.2 (by simpa using e)
theorem vals_at : ∀ {xs : List V} {us : List Value} {i : Nat} {u : Value}, Vals xs us → us[i]? = some u → ∃ x, xs[i]? = some x ∧ RelV x u
  | _, _, _, _, .nil, e => by simp at e
  | _, _, 0, _, .cons r _, e => by simp at e; subst e; exact ⟨_, rfl, r⟩
  | _, _, i + 1, _, .cons _ t, e => by
    obtain ⟨x, h1, h2⟩ := vals_at (i := i) t (by simpa using e)
    exact ⟨x, by simpa using h1, h2⟩
theorem cr_minP {X : Cx} (hc : X.calm = true) (hu : X.A.units + 64 < cLine) : CallR X (.builtin "min") (rMinP X.K) := by
  intro pins s σ H vs us Q I r h
  obtain ⟨a, xs, p, ps, rfl, hs, hd, al, dp, cl, q⟩ := h
  obtain ⟨its, rv, pl, hz⟩ := I.list hs
  obtain ⟨as, hr⟩ := Dp.readsAll I (p :: ps) xs its hd rv
  rw [Vals.ref1 r]
  refine PySem.W.min_list_data (I.ok.hd hc) pl.isList (by simpa using hr) al (by omega) fun i v h' tk bs hv hm hk => ?_
  obtain ⟨bs2, r2, hi, _, _⟩ := PySem.W.readsAll_at hr i v (by simpa using hv)
  obtain ⟨x, hx, rx⟩ := vals_at rv (show its[i]? = some v by simpa using hv)
  have hg : (p :: ps)[i]? = some ((p :: ps).getD i .none) := by rw [List.getD_eq_getElem?_getD, List.getElem?_eq_getElem hi]; rfl
  have e := SeqAt.Reads.unique _ _ v _ _ (canLay_get cl hg) (PySem.W.reads_keeps hk r2) hm
  exact ⟨x, H, I.kept (t' := tk) hk, rx, q i x hx (by rw [hg, e])⟩
def oMinP : Op1 := fun x => match x.d with
  | .lst ds => match pydL ds with
    | some (p :: ps) => if tpL ds = true ∧ alB (p :: ps) = true ∧ PyData.depthAll (p :: ps) ≤ 60 ∧ PyData.canLayAll0 (p :: ps) = true then some (pureV (unD (PySem.W.minD p ps))) else none
    | _ => none
  | _ => none
theorem ok_minP {K : PySem.W.Frag} : Ok1 K (rMinP K) oMinP := by
  intro v x z es Hz H Q r hx hz q
  unfold oMinP at hz
  split at hz
  · rename_i ds e
    split at hz
    · rename_i p ps e2
      split at hz
      · rename_i c
        cases hz
        obtain ⟨a, vs, A, rfl, h1, ow⟩ := hx.lst r.ex e
        refine ⟨a, vs, p, ps, rfl, .of h1, pydL_ok (ow.rp r.ex) e2, alB_ok c.2.1, c.2.2.1, c.2.2.2, fun i w hw hm => ?_⟩
        obtain ⟨d, d1, d2⟩ := pydL_get e2 hm
        have td := tpL_get c.1 d1
        rw [un_pyd td d2] at q
        obtain ⟨w', B, hw', hB⟩ := ow.getV d1
        rw [hw] at hw'
        cases hw'
        exact q _ H Hz (Ex.refl _) (Ex.refl _) (.pure (hB.imm (tp_imm td)).2 r)
      · cases hz
    · cases hz
  · cases hz
/-! ### remove -/
def rRemP (K : PySem.W.Frag) : V → List V → Hp → VK → Prop := fun x xs H Q => ∃ (l : Addr) (vs : List V) (y : V) (ps : List PyData) (d : PyData) (j : Nat), x = .ref l ∧ xs = [y] ∧ H l = some (.lst vs) ∧ DpAll K H vs ps ∧ Dp K H y d ∧ PyData.plainAll ps = true ∧ d.plain = true ∧ d.depth ≤ 60 ∧ SeqAt.dataPlace ps d = some j ∧ Q .non (upd H l (.lst (vs.eraseIdx j)))
theorem mt_remP {X : Cx} (hu : X.A.units + 64 < cLine) : MtM X "list.remove" (rRemP X.K) := by
  intro pins s σ H x xs v us Q I rx rxs h
  obtain ⟨l, vs, y, ps, d, j, rfl, rfl, hH, hd, hy, pa, pd, dp, hj, q⟩ := h
  cases rx
  obtain ⟨u, rfl, ru⟩ := rxs.one
  obtain ⟨z, its, n, rv, hl, eo⟩ := I.lstM hH
  obtain ⟨as, hr⟩ := Dp.readsAll I ps vs its hd rv
  obtain ⟨bs, hr2⟩ := Dp.reads I d y u hy ru
  refine SeqAt.remove_list_data (show s.heap.IsList l its.toArray from ⟨_, eo, rfl, _, rfl⟩) (by simpa using hr) hr2 pa pd (by omega) hj (by rw [List.size_toArray]; omega) ?_
  refine ⟨.non, _, I.lset (its' := its.eraseIdx j) (t' := s.toks) hH eo ?_ (rv.eraseIdx j) ?_, rfl, q⟩
  · show its.toArray.eraseIdxIfInBounds j = (its.eraseIdx j).toArray
    simp
  · have : (vs.eraseIdx j).length ≤ vs.length := List.length_eraseIdx_le _ _
    omega
end Pd
end
section
/-! Pd: xs.remove(t), tuples. -/
namespace Pd
open PySem L2 PyProof.Rows PySem.Spec
section
variable {K : PySem.W.Frag} {Hz H : Hp} {es : List Ent}
theorem OwnL.erase {m : Nat} : ∀ {vs : List V} {ds : List D} {A : List Addr} (i : Nat), OwnL K Hz H m vs ds A → ∃ A' L, A.Perm (A' ++ L) ∧ OwnL K Hz H m (vs.eraseIdx i) (ds.eraseIdx i) A'
  | _, _, _, _, .nil => ⟨[], [], by simp, .nil⟩
  | _, _, _, 0, .cons (A := A) (B := B) h r => ⟨B, A, List.perm_append_comm, r⟩
  | _, _, _, i + 1, .cons (A := A) h r => by
    obtain ⟨A', L, p, q⟩ := OwnL.erase i r
    exact ⟨A ++ A', L, by rw [List.append_assoc]; exact p.append_left _, .cons h q⟩
theorem R.erase {a : Addr} {vs : List V} {ds : List D} {m : Nat} (i : Nat) (h : R K (⟨.ref a, m + 1, .lst ds⟩ :: es) Hz H) (ha : H a = some (.lst vs)) : R K (⟨.ref a, m + 1, .lst (ds.eraseIdx i)⟩ :: es) Hz (upd H a (.lst (vs.eraseIdx i))) := by
  refine R.change2 (fs := []) (es := es) h fun A C hA hC n => ?_
  obtain ⟨a', vs', B, e1, rfl, h1, l⟩ := hA.lst_inv
  cases e1; rw [ha] at h1; cases h1; cases hC
  rw [List.append_nil] at n ⊢
  obtain ⟨A', L, p, q⟩ := (l.aside (o := .lst (vs.eraseIdx i)) (List.nodup_cons.mp n).1).erase i
  exact ⟨a :: A', L, p.cons _, List.mem_cons_self, .lst upd_same q⟩
end
def remK (y : RV) (_ : Nat) (c : D) : Option D := match c with
  | .lst ds => (pydL ds).bind fun ps => (pyd y.d).bind fun p => if PyData.plainAll ps = true ∧ p.plain = true ∧ p.depth ≤ 60 then (SeqAt.dataPlace ps p).map fun k => .lst (ds.eraseIdx k) else none
  | _ => none
def sRem (sy : Bool) (lc : LF) (fy : EF) : SF := fun ρ => match lc ρ with
  | .ok i p ρ1 => if lstAt i p ρ1 = true ∧ (sy = true ∨ p = []) then (fy ρ1).bindS fun y ρ2 => if y.b = true then .stuck else mutS i p ρ2 (remK y) else .stuck
  | .stuck => .stuck
section
variable {X : Cx} {W : WX} {U : List Nat} {s sa sb sc sy : Bool} {pos pos' apos : Pos} {K : PySem.W.Frag} {fa fb fc fy : EF} {lc : LF} {a b : Expr}
theorem ss_remP (hu : X.A.units + 64 < cLine) (ha : SL X a lc) (hb : SE X W sy b fy) (hs : swapsWith (.Call (.Attribute a "remove" apos) [b] [] pos) none pos'.line X.env = pure false := by rfl)
    (hbase : attributeBase a "remove" X.env (eval a X.env) = eval a X.env := by rfl)
    (hfew : ((backTo pos (starEach (b :: []) X.env)).all (fun x => !x.1) && (backToKw pos (keywordEach [] X.env)).all (fun x => x.1.isSome)
      && decide ((b :: []).length + ([] : List Keyword).length + (if ([] : List Keyword).isEmpty then 0 else 1) < 30)) = true := by rfl)
    (hline : (apos.endLine == pos.line) = true := by rfl) (hst : starEach (b :: []) X.env = (false, eval b X.env) :: starEach [] X.env := by rfl) :
    SS X W U (.Expr (.Call (.Attribute a "remove" apos) [b] [] pos) pos') (sRem sy lc fy) := by
  refine psImp (ps_expr (pe_bm PySem.F.plainAttrs_list PySem.F.slot_list_remove PySem.F.type_list_remove (mt_remP hu) ha (pa_cons hb pa_nil hst) hbase hfew hline hst rfl) hs) fun Z σ H ⟨ρ, es, Fr, Hz, S, r, q⟩ => ⟨ρ, es, Fr, Hz, S, r, ?_⟩
  unfold sRem at q
  cases e : lc ρ with
  | stuck => rw [e] at q; exact q.elim
  | ok i p ρ1 =>
    rw [e] at q
    dsimp only at q ⊢
    intro v H1 Hz1 es1 c m d ez k S1 r1 h1 h2 h3 h4
    by_cases hc : lstAt i p ρ1 = true ∧ (sy = true ∨ p = [])
    · rw [if_pos hc] at q
      refine ⟨lstAt_ok hc.1 h1 h2 h3, ρ1, es1, Fr, Hz1, S1, r1, ?_⟩
      cases e2 : fy ρ1 with
      | stuck => rw [e2] at q; exact q.elim
      | exc C ns xs ρ' =>
        rw [e2] at q
        exact fun dx H' Hz' es' ez2 x S r => q dx σ H' Hz' es' (ez.trans ez2) (Fix.refl _ _) x S r
      | ok y ρ2 =>
        rw [e2] at q
        dsimp only [RE.bindS] at q
        intro w H2 Hz2 es2 ez2 k2 S2 o2
        by_cases hb : y.b = true
        · rw [if_pos hb] at q; exact q.elim
        · rw [if_neg hb] at q
          unfold mutS at q
          cases e3 : mutO i p ρ2 (remK y) with
          | none => rw [e3] at q; exact q.elim
          | some ρ3 =>
            rw [e3] at q
            obtain ⟨j, c1, c', F, g1, _, r3, back⟩ := mutO_ok (pre := []) e3 S2 o2.rest (v := v) fun root hr => (h4 root hr).same hc.2 k2
            unfold remK at g1
            split at g1
            · rename_i ds
              obtain ⟨ps, p1, g1⟩ := Option.bind_eq_some_iff.mp g1
              obtain ⟨pd, p2, g1⟩ := Option.bind_eq_some_iff.mp g1
              split at g1
              · rename_i hk
                obtain ⟨n, n1, rfl⟩ := Option.map_eq_some_iff.mp g1
                obtain ⟨A, hA⟩ := r3.head
                obtain ⟨l, vs, B, rfl, _, hl, ow⟩ := hA.lst_inv
                obtain ⟨es', S', r'⟩ := back (r3.erase n hl)
                exact ⟨l, vs, w, ps, pd, n, rfl, rfl, hl, pydL_ok (ow.rp r3.ex) p1, pyd_ok (o2.view.rp o2.rest.ex) p2, hk.1, hk.2.1, hk.2.2, n1, q σ _ Hz2 es' (ez.trans ez2) (Fix.refl _ _) S' r'⟩
              · cases g1
            · cases g1
    · rw [if_neg hc] at q; exact q.elim
end
section
variable {ρ : Vr} {lc : LF} {fy : EF}
@[simp] theorem run_rem {sy : Bool} : sRem sy lc fy ρ = (match lc ρ with
  | .ok i p ρ1 => if lstAt i p ρ1 = true ∧ (sy = true ∨ p = []) then (fy ρ1).bindS fun y ρ2 => if y.b = true then .stuck else mutS i p ρ2 (remK y) else .stuck
  | .stuck => .stuck) := rfl
end
end Pd
end
section
/-! Pd: f(xs[i], e), f(xs[i], ys[j]): parts lent to a def; lists of lists of one's own. -/
namespace Pd
open PySem L2 PyProof.Rows PySem.Spec
section
variable {K : PySem.W.Frag} {Hz H : Hp} {es Fr : List Ent} {σ : L2.St} {ρ : Vr}
theorem slot_lend {i m : Nat} {d c : D} {p : List Nat} {v : V} {pre : List Ent} (S : Slots σ ρ es) (r : R K (pre ++ (es ++ Fr)) Hz H) (e : ρ[i]? = some (some (m, d))) (hv : ∀ root, σ[i]? = some (some root) → AtV H root p v) (hc : getP d p = some c) (hl : p.length ≤ m) :
    ∃ root es', σ[i]? = some (some root) ∧ Slots σ (ρ.set i none) es' ∧ R K (⟨v, m - p.length, c⟩ :: (pre ++ (⟨root, m, setP d p (.hole v)⟩ :: (es' ++ Fr)))) Hz H := by
  obtain ⟨root, es', h1, h2, h3⟩ := S.take e
  have r1 : R K (⟨root, m, d⟩ :: (pre ++ (es' ++ Fr))) Hz H := by
    refine r.perm ?_
    refine (((h2.append_right Fr)).append_left pre).trans ?_
    exact List.perm_middle
  have r2 := r1.at (hv root h1) hc hl
  exact ⟨root, es', h1, h3, r2.perm (List.perm_middle.symm.cons _)⟩
theorem slot_back {i m : Nat} {d c c' : D} {p : List Nat} {v root : V} (S : Slots σ ρ es) (hn : ρ[i]? = some none) (h1 : σ[i]? = some (some root)) (r : R K (⟨v, m - p.length, c'⟩ :: ⟨root, m, setP d p (.hole v)⟩ :: (es ++ Fr)) Hz H) (hc : getP d p = some c) (hl : p.length ≤ m) :
    ∃ es', Slots σ (ρ.set i (some (m, setP d p c'))) es' ∧ R K (es' ++ Fr) Hz H := by
  have r4 := R.unat (c := c') r hc hl
  obtain ⟨es2, S2, p2⟩ := S.put (v := root) (m := m) (d := setP d p c') hn h1
  exact ⟨es2, S2, r4.perm (mid p2).symm⟩
end
def lendO (i : Nat) (p : List Nat) (ρ : Vr) : Option (RV × Nat × D) := match ρ[i]? with
  | some (some (m, d)) => match getP d p with
    | some c => if p.length ≤ m then some (⟨m - p.length, false, c⟩, m, d) else none
    | none => none
  | _ => none
theorem lendO_ok {i : Nat} {p : List Nat} {ρ : Vr} {x : RV} {m : Nat} {d : D} (e : lendO i p ρ = some (x, m, d)) : ρ[i]? = some (some (m, d)) ∧ ∃ c, getP d p = some c ∧ p.length ≤ m ∧ x = ⟨m - p.length, false, c⟩ := by
  unfold lendO at e
  split at e
  · rename_i m' d' e1
    split at e
    · rename_i c e2
      split at e
      · rename_i hl
        cases e
        exact ⟨e1, c, e2, hl, rfl⟩
      · cases e
    · cases e
  · cases e
def eCallLE (cl : List RV → RC) (lc : LF) (fb : EF) : EF := fun ρ => match lc ρ with
  | .ok i p ρ1 => (fb ρ1).bind fun y ρ2 => if y.b = true then .stuck else match lendO i p ρ2 with
    | some (x, m, d) => match cl [x, y] with
      | .ok z (some (m', c') :: _) => if z.b = false ∧ m' = x.q then .ok z (ρ2.set i (some (m, setP d p c'))) else .stuck
      | _ => .stuck
    | none => .stuck
  | .stuck => .stuck
def eCallLL (cl : List RV → RC) (la lb : LF) : EF := fun ρ => match la ρ with
  | .ok i p ρ1 => match lb ρ1 with
    | .ok j q ρ2 => if i = j then .stuck else match lendO i p ρ2, lendO j q ρ2 with
      | some (x, m, d), some (y, n, e) => match cl [x, y] with
        | .ok z (some (m', c') :: some (n', c2) :: _) => if z.b = false ∧ m' = x.q ∧ n' = y.q then .ok z ((ρ2.set i (some (m, setP d p c'))).set j (some (n, setP e q c2))) else .stuck
        | _ => .stuck
      | _, _ => .stuck
    | .stuck => .stuck
  | .stuck => .stuck
section
variable {X : Cx} {W : WX} {s sa sb : Bool} {p pos : Pos} {a b : Expr} {k np : Nat} {f : Addr} {cl : List RV → RC} {lc la lb : LF} {fb : EF}
theorem se_callLE {x : Str} (F : Callee X k f np cl []) (hm : X.mg x = some (.ref f)) (hk : PySem.W.keepIn X.K (.ref f) = true) (hr : Room k X.A) (tk : Takes X W) (ha : SL X a lc) (hb : SE X W true b fb) (hg : Gl X x := by rfl) (hdb : (x == ("__debug__" : Str)) = false := by decide)
    (he : starEach (a :: b :: []) X.env = (false, eval a X.env) :: starEach (b :: []) X.env := by rfl) (he2 : starEach (b :: []) X.env = (false, eval b X.env) :: starEach [] X.env := by rfl) (hpl : (backTo pos (starEach (b :: []) X.env)).any (·.1) = false := by rfl) : SE X W false (.Call (.Name x p) [a, b] [] pos) (eCallLE cl lc fb) := by
  obtain ⟨fd, ps, dvs, ds, F1, hbi, hd, hz⟩ := F.ex
  have hdv : dvs = [] := by cases hz (fun _ => none); rfl
  subst hdv
  refine peImp (pe_callSD F1 hr hg hm hk hbi hd (passAt tk) (pa_cons ha (pa_cons hb pa_nil he2) he) hdb he hpl) fun σ H Q q => ?_
  obtain ⟨ρ, es, Fr, Hz, S, r, q⟩ := q
  refine ⟨ρ, es, Fr, Hz, S, r, ?_⟩
  unfold eCallLE at q
  cases e : lc ρ with
  | stuck => rw [e] at q; exact q.elim
  | ok i pp ρ1 =>
    rw [e] at q
    dsimp only at q ⊢
    intro v H1 Hz1 es1 c m d ez k S1 r1 h1 h2 h3 h4
    refine ⟨ρ1, es1, Fr, Hz1, S1, r1, ?_⟩
    cases e2 : fb ρ1 with
    | stuck => rw [e2] at q; exact q.elim
    | exc C ns xs ρ' =>
      rw [e2] at q
      exact fun dx H' Hz' es' ez2 x S r => q dx H' Hz' es' (ez.trans ez2) x S r
    | ok y ρ2 =>
      rw [e2] at q
      dsimp only [RE.bind] at q
      intro w H2 Hz2 es2 ez2 k2 S2 o2
      by_cases hyb : y.b = true
      · rw [if_pos hyb] at q; exact q.elim
      · rw [if_neg hyb] at q
        cases e3 : lendO i pp ρ2 with
        | none => rw [e3] at q; exact q.elim
        | some t =>
          obtain ⟨x, m2, d2⟩ := t
          rw [e3] at q
          dsimp only at q
          obtain ⟨g1, c2, g2, g3, gx⟩ := lendO_ok e3
          have r2 : R X.K ([⟨w, y.q, y.d⟩] ++ (es2 ++ Fr)) Hz2 H2 := o2.own (by simpa using hyb)
          obtain ⟨root, es3, f1, f2, f3⟩ := slot_lend (pre := [⟨w, y.q, y.d⟩]) S2 r2 g1 (fun root hr => (h4 root hr).mono (k2 rfl)) g2 g3
          cases e4 : cl [x, y] with
          | stuck => rw [e4] at q; exact q.elim
          | exc C ns ys => rw [e4] at q; exact q.elim
          | ok z os =>
            rw [e4] at q
            cases os with
            | nil => exact q.elim
            | cons o os =>
              cases o with
              | none => exact q.elim
              | some mc =>
                obtain ⟨m', c'⟩ := mc
                dsimp only at q
                split at q
                · rename_i hz2
                  refine ⟨[x, y], ⟨root, m2, setP d2 pp (.hole v)⟩ :: (es3 ++ Fr), Hz2, F.np _ (by rw [e4]; exact fun h => by cases h), rfl, ?_, ?_⟩
                  · rw [gx]; exact f3
                  · rw [e4]
                    refine ⟨hz2.1, fun u H' Hz' ez3 r' => ?_⟩
                    have r4 : R X.K (⟨v, m2 - pp.length, c'⟩ :: ⟨root, m2, setP d2 pp (.hole v)⟩ :: (es3 ++ (⟨u, z.q, z.d⟩ :: Fr))) Hz' H' := by
                      have em : m' = m2 - pp.length := by rw [hz2.2, gx]
                      subst em
                      have r5 : R X.K (⟨u, z.q, z.d⟩ :: ⟨v, m2 - pp.length, c'⟩ :: (outE [w] os ++ (⟨root, m2, setP d2 pp (.hole v)⟩ :: (es3 ++ Fr)))) Hz' H' := r'
                      have r6 : R X.K (outE [w] os ++ (⟨u, z.q, z.d⟩ :: ⟨v, m2 - pp.length, c'⟩ :: ⟨root, m2, setP d2 pp (.hole v)⟩ :: (es3 ++ Fr))) Hz' H' := by
                        refine r5.perm ?_
                        refine List.Perm.trans ?_ List.perm_middle.symm
                        exact List.Perm.cons _ List.perm_middle.symm
                      refine r6.right.perm ?_
                      refine (List.Perm.swap _ _ _).trans (List.Perm.cons _ ?_)
                      refine (List.Perm.swap _ _ _).trans (List.Perm.cons _ ?_)
                      exact List.perm_middle.symm
                    obtain ⟨es4, S4, r5⟩ := slot_back f2 (by rw [List.getElem?_set_self (List.getElem?_eq_some_iff.mp g1).1]) f1 r4 g2 g3
                    rw [List.set_set] at S4
                    exact q u H' Hz' es4 ((ez.trans ez2).trans ez3) (fun z => by cases z) S4 (.of hz2.1 r5.swap4)
                · exact q.elim
theorem se_callLL {x : Str} (F : Callee X k f np cl []) (hm : X.mg x = some (.ref f)) (hk : PySem.W.keepIn X.K (.ref f) = true) (hr : Room k X.A) (tk : Takes X W) (ha : SL X a la) (hb : SL X b lb) (hg : Gl X x := by rfl) (hdb : (x == ("__debug__" : Str)) = false := by decide)
    (he : starEach (a :: b :: []) X.env = (false, eval a X.env) :: starEach (b :: []) X.env := by rfl) (he2 : starEach (b :: []) X.env = (false, eval b X.env) :: starEach [] X.env := by rfl) (hpl : (backTo pos (starEach (b :: []) X.env)).any (·.1) = false := by rfl) : SE X W false (.Call (.Name x p) [a, b] [] pos) (eCallLL cl la lb) := by
  obtain ⟨fd, ps, dvs, ds, F1, hbi, hd, hz⟩ := F.ex
  have hdv : dvs = [] := by cases hz (fun _ => none); rfl
  subst hdv
  refine peImp (pe_callSD F1 hr hg hm hk hbi hd (passAt tk) (pa_cons ha (pa_cons hb pa_nil he2) he) hdb he hpl) fun σ H Q q => ?_
  obtain ⟨ρ, es, Fr, Hz, S, r, q⟩ := q
  refine ⟨ρ, es, Fr, Hz, S, r, ?_⟩
  unfold eCallLL at q
  cases e : la ρ with
  | stuck => rw [e] at q; exact q.elim
  | ok i pp ρ1 =>
    rw [e] at q
    dsimp only at q ⊢
    intro v H1 Hz1 es1 c m d ez k S1 r1 h1 h2 h3 h4
    refine ⟨ρ1, es1, Fr, Hz1, S1, r1, ?_⟩
    cases e2 : lb ρ1 with
    | stuck => rw [e2] at q; exact q.elim
    | ok j qq ρ2 =>
      rw [e2] at q
      dsimp only at q ⊢
      intro w H2 Hz2 es2 cw mw dw ez2 k2 S2 r2 w1 w2 w3 w4
      by_cases hij : i = j
      · rw [if_pos hij] at q; exact q.elim
      rw [if_neg hij] at q
      cases e3 : lendO i pp ρ2 with
      | none => rw [e3] at q; exact q.elim
      | some t =>
        cases e5 : lendO j qq ρ2 with
        | none => rw [e3, e5] at q; exact q.elim
        | some t2 =>
          obtain ⟨x, m2, d2⟩ := t
          obtain ⟨y, n2, c2⟩ := t2
          rw [e3, e5] at q
          dsimp only at q
          obtain ⟨g1, ci, g2, g3, gx⟩ := lendO_ok e3
          obtain ⟨g4, cj, g5, g6, gy⟩ := lendO_ok e5
          obtain ⟨root, es3, f1, f2, f3⟩ := slot_lend (pre := []) S2 r2 g1 (fun root hr => (h4 root hr).mono k2) g2 g3
          have g4' : (ρ2.set i none)[j]? = some (some (n2, c2)) := by rw [List.getElem?_set_ne hij]; exact g4
          obtain ⟨root2, es4, f4, f5, f6⟩ := slot_lend (pre := [⟨v, m2 - pp.length, ci⟩, ⟨root, m2, setP d2 pp (.hole v)⟩]) f2 f3 g4' w4 g5 g6
          cases e4 : cl [x, y] with
          | stuck => rw [e4] at q; exact q.elim
          | exc C ns ys => rw [e4] at q; exact q.elim
          | ok z os =>
            rw [e4] at q
            cases os with
            | nil => exact q.elim
            | cons o os =>
              cases o with
              | none => exact q.elim
              | some mc =>
                cases os with
                | nil => exact q.elim
                | cons o2 os =>
                  cases o2 with
                  | none => exact q.elim
                  | some nc =>
                    obtain ⟨m', c'⟩ := mc
                    obtain ⟨n', c3⟩ := nc
                    dsimp only at q
                    split at q
                    · rename_i hz2
                      refine ⟨[x, y], ⟨root, m2, setP d2 pp (.hole v)⟩ :: ⟨root2, n2, setP c2 qq (.hole w)⟩ :: (es4 ++ Fr), Hz2, F.np _ (by rw [e4]; exact fun h => by cases h), rfl, ?_, ?_⟩
                      · rw [gx, gy]
                        refine f6.perm ?_
                        exact List.Perm.swap _ _ _
                      · rw [e4]
                        refine ⟨hz2.1, fun u H' Hz' ez3 r' => ?_⟩
                        have em : m' = m2 - pp.length := by rw [hz2.2.1, gx]
                        have en : n' = n2 - qq.length := by rw [hz2.2.2, gy]
                        subst em en
                        have r4 : R X.K (⟨w, n2 - qq.length, c3⟩ :: ⟨root2, n2, setP c2 qq (.hole w)⟩ :: (es4 ++ (⟨v, m2 - pp.length, c'⟩ :: ⟨root, m2, setP d2 pp (.hole v)⟩ :: (⟨u, z.q, z.d⟩ :: Fr)))) Hz' H' := by
                          have r5 : R X.K (⟨u, z.q, z.d⟩ :: ⟨v, m2 - pp.length, c'⟩ :: ⟨w, n2 - qq.length, c3⟩ :: (⟨root, m2, setP d2 pp (.hole v)⟩ :: ⟨root2, n2, setP c2 qq (.hole w)⟩ :: (es4 ++ Fr))) Hz' H' := r'
                          refine r5.perm ?_
                          refine (List.perm_middle (l₁ := ([⟨u, z.q, z.d⟩, ⟨v, m2 - pp.length, c'⟩] : List Ent))).trans (List.Perm.cons _ ?_)
                          refine (List.perm_middle (l₁ := ([⟨u, z.q, z.d⟩, ⟨v, m2 - pp.length, c'⟩, ⟨root, m2, setP d2 pp (.hole v)⟩] : List Ent))).trans (List.Perm.cons _ ?_)
                          show (⟨u, z.q, z.d⟩ :: ⟨v, m2 - pp.length, c'⟩ :: ⟨root, m2, setP d2 pp (.hole v)⟩ :: (es4 ++ Fr)).Perm _
                          refine List.Perm.trans ?_ List.perm_middle.symm
                          refine (List.Perm.swap _ _ _).trans (List.Perm.cons _ ?_)
                          refine List.Perm.trans ?_ List.perm_middle.symm
                          refine (List.Perm.swap _ _ _).trans (List.Perm.cons _ ?_)
                          exact List.perm_middle.symm
                        have hjl : j < ρ2.length := (List.getElem?_eq_some_iff.mp g4).1
                        have hil : i < ρ2.length := (List.getElem?_eq_some_iff.mp g1).1
                        obtain ⟨es5, S5, r5⟩ := slot_back f5 (by rw [List.getElem?_set_self (by rw [List.length_set]; exact hjl)]) f4 r4 g5 g6
                        rw [List.set_set] at S5
                        have r6 : R X.K (⟨v, m2 - pp.length, c'⟩ :: ⟨root, m2, setP d2 pp (.hole v)⟩ :: (es5 ++ (⟨u, z.q, z.d⟩ :: Fr))) Hz' H' := by
                          refine r5.perm ?_
                          refine List.perm_middle.trans (List.Perm.cons _ ?_)
                          exact List.perm_middle
                        obtain ⟨es6, S6, r7⟩ := slot_back S5 (by rw [List.getElem?_set_ne (Ne.symm hij), List.getElem?_set_self hil]) f1 r6 g2 g3
                        rw [List.set_comm _ _ (Ne.symm hij), List.set_set] at S6
                        exact q u H' Hz' es6 ((ez.trans ez2).trans ez3) (fun z => by cases z) S6 (.of hz2.1 r7.swap4)
                    · exact q.elim
end
/-- a list display of things of one's own, n levels -/
def eLstN (n : Nat) (as : List Ar) : EF := fun ρ => (evA as ρ).bind fun xs ρ1 => if xs.length ≤ BIG ∧ (xs.all fun x => decide (n ≤ x.q) || immut x.d) = true then .ok ⟨n + 1, false, .lst (xs.map (·.d))⟩ ρ1 else .stuck
theorem ownE_zip {K : PySem.W.Frag} {Hz H : Hp} {n : Nat} : ∀ {vs : List V} {xs : List RV} {A : List Addr}, vs.length = xs.length → OwnE K Hz H (zipE vs (xs.map fun x => ⟨n, false, x.d⟩)) A → OwnL K Hz H n vs (xs.map (·.d)) A
  | [], [], _, _, .nil => .nil
  | v :: vs, x :: xs, _, l, .cons h r => .cons h (ownE_zip (by simpa using l) r)
  | [], _ :: _, _, l, _ => by simp at l
  | _ :: _, [], _, l, _ => by simp at l
section
variable {X : Cx} {W : WX} {s : Bool} {pos : Pos}
theorem se_lstN (n : Nat) {es : List Expr} {as : List Ar} (h : SA X W s es as) : SE X W s (.List es pos) (eLstN n as) := by
  refine peImp (pe_lst h) fun σ H Q q => ?_
  refine oneA q id fun vs xs ρ1 es1 Fr Hz1 H1 S l t r q => ?_
  split at q
  · rename_i c
    refine ⟨by rw [l]; exact big_line c.1, fun p hp => ?_⟩
    obtain ⟨Hz2, e2, r2⟩ := zip_owned (j := n) l (fun x hx => by
      have := List.all_eq_true.mp c.2 x hx
      simpa [Bool.or_eq_true] using this) r
    refine q _ _ Hz2 es1 e2 (fun _ => Ex.new hp) S (.of rfl (R.alloc r2 hp fun A hA => ?_))
    exact .lst upd_same (ownE_zip l hA)
  · exact q.elim
end
end Pd
end
section
/-! Pd: sorted(set(list of ints)). -/
namespace Pd
open PySem L2 PyProof.Rows PySem.Spec
section
variable {P : Program} {w : World} {A : Around} {E : Value → Shared → Prop} {s : Shared}
set_option maxHeartbeats 3200000 in
/-- set(xs), xs a list of ints: what sorted asks of it -/
theorem set_of_list {l : Addr} {items : Array Value} (ns : List Int) {Q : Value → Shared → Prop} (hh : A.handled = none) (hl : s.heap.IsList l items) (hit : IntsAre items.toList ns) (hb : ns.length + 1 < scanBound)
    (fin : ∀ (h' : Heap) (tk c : Nat), SetR w h' s.heap.objs.size (fun j => decide (j ∈ ns)) c → c ≤ ns.length → (∀ b o, s.heap.get? b = some o → h'.get? b = some o) → Q (.ref s.heap.objs.size) { s with heap := h', toks := tk }) :
    wpAny (model P w) A (call (.type "set") [.ref l]) Q E s := by
  have sz : items.size = ns.length := by have q := IntsAre.length hit; rwa [Array.length_toList] at q
  obtain ⟨c, tl, hmro⟩ := F.called_set.mro
  have hmade := F.called_set.made
  have hsub := F.called_set.sub
  have h1 := F.called_set.notType
  have h2 := F.called_set.canCreate
  have hct := F.typeCall_set_1 (.ref l)
  refine wpAny_call (codeAny_of_tree ?_)
  show wpAny _ _ (callAny (.type "set") _) _ _ _
  refine wpAny_pure ⟨Code.quiet_builtin _ (by decide +kernel), codeAny_builtin F.entry_type_call ?_⟩
  rw [Around.under_plain (weight_type_call_type "set" [.ref l] []) rfl]
  repeat (any_goals (first | assumption | wp_step))
  -- the empty set
  let o0 : Obj := { cls := .type "set", dict := none, data := .set #[] 0 (.fresh 0 0 (!w.params.followText "set-order")) }
  refine codeAny_mono (code_set_led1 (.ref l) (E := E) (Q₁ := fun obj s₁ => obj = .ref s.heap.objs.size ∧ s₁ = { s with heap := s.heap.push o0 }) ⟨rfl, rfl⟩) fun r s₁ hr => ?_
  cases r with
  | error e => exact hr
  | ok fl =>
    cases fl with
    | ret obj =>
      obtain ⟨rfl, rfl⟩ := hr
      have hS : (s.heap.push o0).get? s.heap.objs.size = some o0 := Heap.get?_push_size _ rfl
      have hT : Shared.TypeIs { s with heap := s.heap.push o0 } (.ref s.heap.objs.size) "set" := ⟨_, hS, rfl⟩
      have hli := F.called_set.init.lookup
      have hbi := F.called_set.init.bind (.ref s.heap.objs.size)
      repeat (any_goals (first | assumption | wp_step))
      -- what is put in
      refine codeAny_mono (codeAny_call_builtin (R := wants (fun r s₂ => r = .none ∧ ∃ h' tk c, s₂ = { s with heap := h', toks := tk } ∧ SetR w h' s.heap.objs.size (fun j => decide (j ∈ ns)) c ∧ c ≤ ns.length ∧
          (∀ b o, s.heap.get? b = some o → h'.get? b = some o)) E) F.called_set.init.plain F.entry_set_init (check_set_init_1 hT ?_)) fun r₂ s₂ hr₂ => ?_
      · obtain ⟨ol, hol, hcl, nl, hdl⟩ := hl
        obtain ⟨ocls, odict, odata, oslots⟩ := ol
        simp only at hcl hdl
        subst hcl hdl
        have lS : l < s.heap.objs.size := Heap.lt_size hol
        have hol' : (s.heap.push o0).get? l = some { cls := .type "list", dict := odict, data := .seq items nl, slots := oslots } := Heap.get?_push_of_some _ hol
        have hl1 : (s.heap.push o0).IsList l items := ⟨_, hol', rfl, nl, rfl⟩
        have hsls := F.sub_list_set
        have hslf := F.sub_list_frozenset
        have hne : (Value.type "list" == Value.type "dict") = false := by decide
        unfold Builtin.«set.__init__» noKeywords Builtin.Frozenset.updateFrom
        generalize hPI : pyIter = PI
        wp_walk
        subst hPI
        refine wpAny_pyIter_list hl1 (wpAny_bind (wpAny_runValue ?_))
        have sp : (s.heap.push o0).objs.size = s.heap.objs.size + 1 := Heap.size_push ..
        have nI : l ≠ (s.heap.push o0).objs.size := by rw [sp]; exact Nat.ne_of_lt (Nat.lt_succ_of_lt lS)
        have nS : s.heap.objs.size ∉ [(s.heap.push o0).objs.size, l] := by
          rw [sp]
          intro hm
          rcases List.mem_cons.mp hm with e | hm
          · exact Nat.ne_of_lt (Nat.lt_succ_self _) e
          · exact Nat.ne_of_gt lS (List.mem_singleton.mp hm)
        refine set_update_ints ((Walks.list (by simp [hh]) _ l nI items).toS) s.heap.objs.size nS ns sz hb (fun i v hv => ?_) (items.size - 0) 0 _ (by omega) (Nat.zero_le _)
          ⟨⟨_, Heap.get?_push_size _ rfl, rfl, rfl⟩, (hl1.push _)⟩ ⟨0, Nat.le_refl 0, setR_new_at (Heap.get?_push_of_some _ hS)⟩ fun s' c' hm hc' hS' => ?_
        · have hi : i < ns.length := by rw [← sz]; exact (Array.getElem?_eq_some_iff.mp hv).1
          obtain ⟨t, e⟩ := IntsAre.int_at hit i v (by rw [Array.getElem?_toList]; exact hv)
          exact ⟨ns[i], t, List.getElem?_eq_getElem hi, by rw [e, List.getD_eq_getElem?_getD, List.getElem?_eq_getElem hi]; rfl⟩
        · obtain ⟨h', g2, d', tk', os'⟩ := s'
          obtain rfl : g2 = s.gens := hm.gens
          obtain rfl : d' = s.drawn := hm.drawn
          obtain rfl : os' = s.os := hm.os
          show wpAny _ _ _ _ _ _
          refine wpAny_pure ?_
          show wpAny _ _ (ret Value.none) _ _ _
          rw [sz] at hc'
          refine wpAny_pure ⟨rfl, h', tk', c', rfl, hS', hc', fun b o e => hm.heap b o ?_ (Heap.get?_push_of_some _ (Heap.get?_push_of_some _ e))⟩
          have b0 : b < s.heap.objs.size := Heap.lt_size e
          rw [sp]
          intro hx
          rcases List.mem_cons.mp hx with e1 | hx
          · exact Nat.ne_of_lt b0 e1
          · exact Nat.ne_of_lt (Nat.lt_succ_of_lt b0) (List.mem_singleton.mp hx)
      · cases r₂ with
        | error e => exact hr₂
        | ok fl₂ =>
          cases fl₂ with
          | ret r =>
            obtain ⟨rfl, h', tk, c', rfl, g1, g2, g3⟩ := hr₂
            repeat (any_goals (first | assumption | wp_step))
            exact fin _ _ _ g1 g2 g3
          | _ => exact hr₂.elim
    | _ => exact hr.elim
end
def rSetL (K : PySem.W.Frag) (w : World) : List V → Hp → VK → Prop := fun xs H Q => ∃ (l : Addr) (ns : List Int), xs = [V.ref l] ∧ SqL K H l (ns.map V.int) ∧ ns.length < 64 ∧
  ∀ (p : Addr) (c : Nat), c ≤ ns.length → H p = none → Q (.ref p) (upd H p (SetO w p (fun j => decide (j ∈ ns)) c))
theorem cr_setL {X : Cx} (hc : X.calm = true) : CallR X (.type "set") (rSetL X.K X.w) := by
  intro pins s σ H xs us Q I r h
  obtain ⟨l, ns, rfl, hs, h64, q⟩ := h
  rw [Vals.ref1 r]
  obtain ⟨its, rv, pl, hz⟩ := I.list hs
  refine set_of_list ns (I.ok.hd hc) pl.isList (by simpa using rv.ints) (by unfold scanBound; omega) fun h' tk c hS hcn hk => ?_
  have hn := I.hok.fresh (Nat.le_refl s.heap.objs.size)
  exact ⟨.ref _, upd H s.heap.objs.size (SetO X.w s.heap.objs.size (fun j => decide (j ∈ ns)) c), I.laid (t' := tk) (fun b u e => hk b u e) (Nat.le_refl _) (setO_new hS), rfl, q _ _ hcn hn⟩
end Pd
end
section
/-! Pd: texts: join, split, index, int, signs; sorted(set(ints)). -/
namespace Pd
open PySem L2 PyProof.Rows PySem.Spec
/-! ### sorted(set(ints)) -/
def insS (k : Int) : List Int → List Int
  | [] => [k]
  | n :: ns => if k < n then k :: n :: ns else if k = n then n :: ns else n :: insS k ns
def setS (ns : List Int) : List Int := ns.foldr insS []
theorem mem_insS {k x : Int} : ∀ {ns : List Int}, x ∈ insS k ns ↔ x = k ∨ x ∈ ns
  | [] => by simp [insS]
  | n :: ns => by
    unfold insS
    split
    · simp
    · split
      · rename_i h; subst h; simp
      · simp [mem_insS (ns := ns)]
        constructor
        · rintro (h | h | h)
          · exact .inr (.inl h)
          · exact .inl h
          · exact .inr (.inr h)
        · rintro (h | h | h)
          · exact .inr (.inl h)
          · exact .inl h
          · exact .inr (.inr h)
theorem ris_insS {k : Int} : ∀ {ns : List Int}, ns.Pairwise (· < ·) → (insS k ns).Pairwise (· < ·)
  | [], _ => by simp [insS]
  | n :: ns, h => by
    obtain ⟨h1, h2⟩ := List.pairwise_cons.mp h
    unfold insS
    split
    · rename_i c
      refine List.pairwise_cons.mpr ⟨fun x hx => ?_, h⟩
      rcases List.mem_cons.mp hx with e | hx
      · rw [e]; exact c
      · exact Int.lt_trans c (h1 x hx)
    · split
      · exact h
      · refine List.pairwise_cons.mpr ⟨fun x hx => ?_, ris_insS h2⟩
        rcases mem_insS.mp hx with e | hx
        · omega
        · exact h1 x hx
theorem mem_setS {x : Int} : ∀ {ns : List Int}, x ∈ setS ns ↔ x ∈ ns
  | [] => by simp [setS]
  | n :: ns => by
    show x ∈ insS n (setS ns) ↔ _
    rw [mem_insS, mem_setS (ns := ns), List.mem_cons]
theorem ris_setS : ∀ ns : List Int, (setS ns).Pairwise (· < ·)
  | [] => by simp [setS]
  | n :: ns => ris_insS (ris_setS ns)
theorem ris_uniq : ∀ {xs ys : List Int}, xs.Pairwise (· < ·) → ys.Pairwise (· < ·) → (∀ k, k ∈ xs ↔ k ∈ ys) → xs = ys
  | [], [], _, _, _ => rfl
  | [], y :: ys, _, _, h => by have := (h y).mpr List.mem_cons_self; simp at this
  | x :: xs, [], _, _, h => by have := (h x).mp List.mem_cons_self; simp at this
  | x :: xs, y :: ys, hx, hy, h => by
    obtain ⟨x1, x2⟩ := List.pairwise_cons.mp hx
    obtain ⟨y1, y2⟩ := List.pairwise_cons.mp hy
    have e : x = y := by
      rcases List.mem_cons.mp ((h x).mp List.mem_cons_self) with e | m1
      · exact e
      · rcases List.mem_cons.mp ((h y).mpr List.mem_cons_self) with e | m2
        · exact e.symm
        · have := y1 x m1; have := x1 y m2; omega
    subst e
    rw [ris_uniq x2 y2 fun k => ?_]
    constructor
    · intro hk
      rcases List.mem_cons.mp ((h k).mp (List.mem_cons_of_mem _ hk)) with e | m
      · subst e; exact absurd (x1 k hk) (Int.lt_irrefl _)
      · exact m
    · intro hk
      rcases List.mem_cons.mp ((h k).mpr (List.mem_cons_of_mem _ hk)) with e | m
      · subst e; exact absurd (y1 k hk) (Int.lt_irrefl _)
      · exact m
def oSorSet : Op1 := fun x => match x.d with
  | .lst ds => (dInts ds).bind fun ns => if ns.length < 64 then some ⟨1, false, .lst ((setS ns).map .int)⟩ else none
  | _ => none
section
variable {X : Cx} {W : WX} {U : List Nat} {s sa sb : Bool} {p p2 pos q2 apos : Pos} {K : PySem.W.Frag} {fa fb : EF} {a b e : Expr} {o : Expr}
def rSorSet (K : PySem.W.Frag) (w : World) : List V → Hp → VK → Prop := fun vs H Q => rSetL K w vs H fun v H1 => rSortedSet w [v] H1 Q
theorem ok_sorSet {w : World} : Ok1 K (rSorSet K w) oSorSet := by
  intro v x z es Hz H Q r hx hz q
  unfold oSorSet at hz
  split at hz
  · rename_i ds e
    obtain ⟨ns, h1, hz⟩ := Option.bind_eq_some_iff.mp hz
    split at hz
    · rename_i hl
      cases hz
      obtain ⟨a, vs, A, rfl, ha, ow⟩ := hx.lst r.ex e
      have ev := ints_ok ow h1
      subst ev
      refine ⟨a, ns, rfl, .of ha, hl, fun p c hc hp => ?_⟩
      obtain ⟨e1, r1⟩ := r.allocZ (o := SetO w p (fun j => decide (j ∈ ns)) c) hp
      refine ⟨p, _, c, rfl, upd_same, by omega, fun ms p' m1 m2 _ hp' => ?_⟩
      have em : ms = setS ns := ris_uniq m1 (ris_setS ns) fun k => by rw [m2, mem_setS]; simp
      subst em
      exact q _ _ _ e1 ((Ex.new hp).trans (Ex.new hp')) (new_lst r1 hp' (rpl_ints _))
    · cases hz
  · cases hz
theorem se_sorSet (hc : X.calm = true) (ha : SE X W sa e fa) (hm : X.mg "sorted" = none) (hm2 : X.mg "set" = none) (hs : s = true → sa = true := by first | exact fun _ => rfl | (intro z; cases z)) (hg : Gl X "sorted" := by rfl) (hg2 : Gl X "set" := by rfl)
    (hst : starEach [e] X.env = (false, eval e X.env) :: starEach [] X.env := by rfl) (hst2 : starEach [.Call (.Name "set" p2) [e] [] q2] X.env = (false, eval (.Call (.Name "set" p2) [e] [] q2) X.env) :: starEach [] X.env := by rfl) :
    SE X W s (.Call (.Name "sorted" p) [.Call (.Name "set" p2) [e] [] q2] [] pos) (e1 oSorSet fa) :=
  peImp (pe_callB (cr_sortedSet hc) hg hm bt_sorted (pa_cons (pe_callTy (cr_setL hc) hg2 hm2 PyProof.Rows.boot_set (pa_cons ha pa_nil hst) (by decide) (by decide) hst rfl) pa_nil hst2) (by decide) (by decide) hst2 rfl) fun σ H Q q => (b1_core (ok_sorSet (w := X.w)) q hs : tCB (rSorSet X.K X.w) (tCons (tE X.K W sa fa) tNil) σ H Q)
/-! ### texts -/
def dStrs : List D → Option (List Str)
  | [] => some []
  | .str z :: ds => (dStrs ds).map (z :: ·)
  | _ => none
theorem strs_ok {H : Hp} : ∀ {vs : List V} {ds : List D} {zs : List Str}, RpL K H vs ds → dStrs ds = some zs → vs = zs.map V.str
  | _, _, zs, .nil, e => by simp [dStrs] at e; subst e; rfl
  | _, _, zs, .cons (d := d) h r, e => by
    cases d <;> simp [dStrs] at e
    obtain ⟨ms, h1, rfl⟩ := e
    cases h
    rw [List.map_cons, strs_ok r h1]
theorem rpl_strs {H : Hp} : ∀ zs : List Str, RpL K H (zs.map V.str) (zs.map D.str)
  | [] => .nil
  | z :: zs => .cons (.str z) (rpl_strs zs)
/-- x.m(y), x a text -/
def eSt1 (op : Str → RV → Option RV) (fa fb : EF) : EF := fun ρ => (fa ρ).bind fun x ρ1 => match x.d with
  | .str a => (fb ρ1).bind fun y ρ2 => opE (op a y) ρ2
  | _ => .stuck
def OkS (K : PySem.W.Frag) (r : V → List V → Hp → VK → Prop) (op : Str → RV → Option RV) : Prop := ∀ (a : Str) (w : V) (y z : RV) (es : List Ent) (Hz H : Hp) (Q : VK), R K es Hz H → View K Hz H w y → op a y = some z →
  (∀ u H' Hz', Ex Hz Hz' → Ex H H' → RVok K Hz' H' u z es → Q u H') → r (.str a) [w] H Q
theorem se_st1 {id : String} {name : Str} {r : V → List V → Hp → VK → Prop} {op : Str → RV → Option RV} (slot : PySem.Slot "str" name id) (ty : typeOf (.builtin id) = pure (.type "method_descriptor")) (rule : MtR X id r) (ok : OkS X.K r op) (ha : SE X W sa o fa) (hb : SE X W sb e fb)
    (hs : s = true → sa = true ∧ sb = true := by first | exact fun _ => ⟨rfl, rfl⟩ | (intro z; cases z))
    (hst : starEach [e] X.env = [(false, eval e X.env)] := by rfl) (hbase : attributeBase o name X.env (eval o X.env) = eval o X.env := by rfl) (hline : (apos.endLine == pos.line) = true := by rfl) :
    SE X W s (.Call (.Attribute o name apos) [e] [] pos) (eSt1 op fa fb) := by
  refine peImp (pe_m1 slot ty rule ha hb hst hbase hline) fun σ H Q ⟨ρ, es, Fr, Hz, S, r0, q⟩ => ⟨ρ, es, Fr, Hz, S, r0, ?_⟩
  unfold eSt1 at q
  cases e1 : fa ρ with
  | stuck => rw [e1] at q; exact q.elim
  | exc C ns xs ρ' => rw [e1] at q; exact q
  | ok x ρ1 =>
    rw [e1] at q
    dsimp only [RE.bind] at q
    intro v H1 Hz1 es1 ez k S1 o1
    split at q
    · rename_i a ed
      have ev := o1.view.str ed
      subst ev
      refine ⟨⟨a, rfl⟩, ρ1, es1, Fr, Hz1, S1, o1.rest, ?_⟩
      cases e2 : fb ρ1 with
      | stuck => rw [e2] at q; exact q.elim
      | exc C ns xs ρ' =>
        rw [e2] at q
        exact fun dx H' Hz' es' ez2 a b c => q dx H' Hz' es' (ez.trans ez2) a b c
      | ok y ρ2 =>
        rw [e2] at q
        dsimp only [RE.bind] at q
        intro w H2 Hz2 es2 ez2 k2 S2 o2
        obtain ⟨z, hz⟩ := opE_some q
        exact ok a w y z _ Hz2 H2 Q o2.rest o2.view hz (fin2 hz (ez.trans ez2) (fun h => (k (hs h).1).trans (k2 (hs h).2)) S2 q)
    · exact q.elim
def oJoin (a : Str) (y : RV) : Option RV := match y.d with
  | .lst ds => (dStrs ds).bind fun zs => if (zs.map (·.length)).sum + zs.length * a.length ≤ 16777216 then some (pureV (.str (Txt.join a zs))) else none
  | _ => none
theorem ok_join : OkS K (fun x xs H Q => ∃ a p, ∃ ys : List Str, x = .str a ∧ xs = [.ref p] ∧ (SqL K H p (ys.map V.str) ∨ SqT K H p (ys.map V.str)) ∧ (ys.map (·.length)).sum + ys.length * a.length ≤ 16777216 ∧ Q (.str (Txt.join a ys)) H) oJoin := by
  intro a w y z es Hz H Q r hy hz q
  unfold oJoin at hz
  split at hz
  · rename_i ds e
    obtain ⟨zs, h1, hz⟩ := Option.bind_eq_some_iff.mp hz
    split at hz
    · rename_i c
      cases hz
      obtain ⟨p, vs, A, rfl, ha, ow⟩ := hy.lst r.ex e
      have ev := strs_ok (ow.rp r.ex) h1
      subst ev
      exact ⟨a, p, zs, rfl, rfl, .inl (.of ha), c, q _ H Hz (Ex.refl _) (Ex.refl _) (.pure (.str _) r)⟩
    · cases hz
  · cases hz
def oSplit (a : Str) (y : RV) : Option RV := match y.d with
  | .str b => if (b.length == 0) = false ∧ a.length ≤ BIG ∧ (Txt.split a b).length ≤ BIG then some ⟨1, false, .lst ((Txt.split a b).map .str)⟩ else none
  | _ => none
theorem ok_split : OkS K (fun x xs H Q => ∃ a b, x = .str a ∧ xs = [.str b] ∧ (b.length == 0) = false ∧ a.length + 2 ≤ sizeLine ∧ rNewStrs (Txt.split a b) H Q) oSplit := by
  intro a w y z es Hz H Q r hy hz q
  unfold oSplit at hz
  split at hz
  · rename_i b e
    split at hz
    · rename_i c
      cases hz
      have ev := hy.str e
      subst ev
      refine ⟨a, b, rfl, rfl, c.1, Nat.le_trans (Nat.add_le_add_right c.2.1 2) (by decide +kernel), fun p hp => ?_⟩
      exact q _ _ Hz (Ex.refl _) (Ex.new hp) (new_lst r hp (rpl_strs _))
    · cases hz
  · cases hz
theorem se_join (ha : SE X W sa o fa) (hb : SE X W sb e fb) (hs : s = true → sa = true ∧ sb = true := by first | exact fun _ => ⟨rfl, rfl⟩ | (intro z; cases z)) (hst : starEach [e] X.env = [(false, eval e X.env)] := by rfl) (hbase : attributeBase o "join" X.env (eval o X.env) = eval o X.env := by rfl) (hline : (apos.endLine == pos.line) = true := by rfl) :
    SE X W s (.Call (.Attribute o "join" apos) [e] [] pos) (eSt1 oJoin fa fb) := se_st1 F.slot_str_join F.type_str_join mt_join ok_join ha hb hs hst hbase hline
theorem se_split (ha : SE X W sa o fa) (hb : SE X W sb e fb) (hs : s = true → sa = true ∧ sb = true := by first | exact fun _ => ⟨rfl, rfl⟩ | (intro z; cases z)) (hst : starEach [e] X.env = [(false, eval e X.env)] := by rfl) (hbase : attributeBase o "split" X.env (eval o X.env) = eval o X.env := by rfl) (hline : (apos.endLine == pos.line) = true := by rfl) :
    SE X W s (.Call (.Attribute o "split" apos) [e] [] pos) (eSt1 oSplit fa fb) := se_st1 F.slot_str_split F.type_str_split mt_split ok_split ha hb hs hst hbase hline
/-- int(text) -/
def oIntS : Op1 := fun x => match x.d with
  | .str a => if a.length ≤ 640 then (PySem.intText? a).map fun n => pureV (.int n) else none
  | _ => none
theorem ok_intS : Ok1 K (fun xs H Q => ∃ a n, xs = [.str a] ∧ PySem.intText? a = some n ∧ a.length ≤ 640 ∧ Q (.int n) H) oIntS := by
  intro v x z es Hz H Q r hx hz q
  unfold oIntS at hz
  split at hz
  · rename_i a e
    split at hz
    · rename_i c
      obtain ⟨n, hn, rfl⟩ := Option.map_eq_some_iff.mp hz
      have ev := hx.str e
      subst ev
      exact ⟨a, n, rfl, hn, c, q _ H Hz (Ex.refl _) (Ex.refl _) (.pure (.int _) r)⟩
    · cases hz
  · cases hz
/-- a global text -/
theorem se_gstr {x : Str} {z : Str} (hm : ∃ t, X.mg x = some (.str z t)) (hg : Gl X x := by rfl) (hd : (x == ("__debug__" : Str)) = false := by decide) : SE X W s (.Name x pos) (eC (.str z)) := by
  obtain ⟨t, e⟩ := hm
  exact se_c (v := .str z) (pe_glob hg e ⟨t, rfl⟩ hd) fun _ => .str z
/-- c not in text -/
def oNotSign : Op2 := fun x y => match x.d, y.d with
  | .str a, .str z => match a.cps.toList with
    | [c] => some (pureV (.bl (!decide (c ∈ z.cps.toList))))
    | _ => none
  | _, _ => none
theorem ok_notSign : OpOk K (fun x y H Q => ∃ (c : Nat) (z : Str), x = .str ⟨#[c]⟩ ∧ y = .str z ∧ Q (.bl (!decide (c ∈ z.cps.toList))) H) oNotSign := by
  intro v w x y z es Hz H Q r hx hy hz q
  unfold oNotSign at hz
  split at hz
  · rename_i a b e1 e2
    split at hz
    · rename_i c e3
      cases hz
      have ev := hx.str e1
      have ew := hy.str e2
      subst ev ew
      have ea : a = ⟨#[c]⟩ := Str.ext' (Array.toList_inj.mp e3)
      subst ea
      exact ⟨c, b, rfl, rfl, q _ H Hz (Ex.refl _) (Ex.refl _) (.pure (.bl _) r)⟩
    · cases hz
  · cases hz
/-- the signs of a text, in turn -/
def iSt (fa : EF) : IF := fun ρ => (fa ρ).bindI fun x ρ1 => match x.d with
  | .str z => .ok (z.cps.toList.map fun c => .str ⟨#[c]⟩) (pureV x.d) ρ1
  | _ => .stuck
theorem walks_str {z : Str} {v : V} {x : RV} : Walks K (Its z) v x (z.cps.toList.map fun c => .str ⟨#[c]⟩) := by
  intro i es Hz H r
  have hl : z.cps.toList.length = z.cps.size := Array.length_toList
  refine ⟨fun d hd => ?_, fun hl2 => ?_⟩
  · rw [List.getElem?_map] at hd
    obtain ⟨c, hc, rfl⟩ := Option.map_eq_some_iff.mp hd
    have hi : i < z.cps.toList.length := (List.getElem?_eq_some_iff.mp hc).1
    refine ⟨by show i < z.cps.size; omega, fun y H' hy => ?_⟩
    obtain ⟨rfl, c', h1, rfl⟩ := hy
    rw [← Array.getElem?_toList, hc] at h1
    cases h1
    exact ⟨Hz, Ex.refl _, Ex.refl _, .str _, r⟩
  · rw [List.length_map] at hl2
    show z.cps.size ≤ i
    omega
theorem si_str {tg : Expr} (ha : SE X W s a fa) : SI X W s tg a (iSt fa) := by
  refine piImp (pi_str ha) fun σ H Q q => ?_
  refine oneI q _root_.id fun v x ρ1 es1 Fr Hz1 H1 S o q => ?_
  split at q
  · rename_i z e
    have ev := o.view.str e
    subst ev
    exact ⟨z, rfl, q _ (.str z) H1 Hz1 es1 (Ex.refl _) (fun _ => Ex.refl _) S (o.rest.put (.inr (by rw [e]; rfl)) (by rw [e]; exact .str z)) walks_str⟩
  · exact q.elim
/-- xs.index(y), texts -/
def oIndex (ds : List D) (y : RV) : Option RV := match y.d with
  | .str z => (dStrs ds).bind fun zs => (zs.findIdx? (fun u => decide (u = z))).map fun j : Nat => pureV (.int (j : Int))
  | _ => none
def eIndex (fa fb : EF) : EF := fun ρ => (fa ρ).bind fun x ρ1 => match x.d with
  | .lst ds => (fb ρ1).bind fun y ρ2 => opE (oIndex ds y) ρ2
  | _ => .stuck
theorem find_first : ∀ {zs : List Str} {z : Str} {j : Nat}, zs.findIdx? (fun u => decide (u = z)) = some j → zs[j]? = some z ∧ ∀ m, m < j → zs[m]? ≠ some z
  | [], _, _, e => by simp at e
  | u :: zs, z, j, e => by
    rw [List.findIdx?_cons] at e
    by_cases h : u = z
    · rw [if_pos (by simpa using h)] at e
      cases e
      exact ⟨by simp [h], fun m hm => absurd hm (Nat.not_lt_zero _)⟩
    · rw [if_neg (by simpa using h)] at e
      obtain ⟨j', h1, rfl⟩ := Option.map_eq_some_iff.mp e
      obtain ⟨g1, g2⟩ := find_first h1
      refine ⟨by simpa using g1, fun m hm => ?_⟩
      cases m with
      | zero => simpa using h
      | succ m => simpa using g2 m (by omega)
theorem se_index (ha : SE X W sa o fa) (hb : SE X W true e fb) (hs : s = true → sa = true := by first | exact fun _ => rfl | (intro z; cases z)) (hst : starEach (e :: []) X.env = (false, eval e X.env) :: starEach [] X.env := by rfl) (hbase : attributeBase o "index" X.env (eval o X.env) = eval o X.env := by rfl)
    (hfew : ((backTo pos (starEach (e :: []) X.env)).all (fun x => !x.1) && (backToKw pos (keywordEach [] X.env)).all (fun x => x.1.isSome)
      && decide ((e :: []).length + ([] : List Keyword).length + (if ([] : List Keyword).isEmpty then 0 else 1) < 30)) = true := by rfl)
    (hline : (apos.endLine == pos.line) = true := by rfl) : SE X W s (.Call (.Attribute o "index" apos) [e] [] pos) (eIndex fa fb) := by
  refine peImp (pe_bm PySem.F.plainAttrs_list PySem.F.slot_list_index PySem.F.type_list_index mt_index ha (pa_cons hb pa_nil hst) hbase hfew hline hst rfl) fun σ H Q ⟨ρ, es, Fr, Hz, S, r0, q⟩ => ⟨ρ, es, Fr, Hz, S, r0, ?_⟩
  unfold eIndex at q
  cases e1 : fa ρ with
  | stuck => rw [e1] at q; exact q.elim
  | exc C ns xs ρ' => rw [e1] at q; exact q
  | ok x ρ1 =>
    rw [e1] at q
    dsimp only [RE.bind] at q
    intro v H1 Hz1 es1 ez k S1 o1
    split at q
    · rename_i ds ed
      obtain ⟨p, vs, A, rfl, hp, ow⟩ := o1.view.lst o1.rest.ex ed
      refine ⟨.inl ⟨rfl, _, .of hp⟩, ρ1, es1, Fr, Hz1, S1, o1.rest, ?_⟩
      cases e2 : fb ρ1 with
      | stuck => rw [e2] at q; exact q.elim
      | exc C ns xs ρ' =>
        rw [e2] at q
        exact fun dx H' Hz' es' ez2 a b c => q dx H' Hz' es' (ez.trans ez2) a b c
      | ok y ρ2 =>
        rw [e2] at q
        dsimp only [RE.bind] at q
        obtain ⟨z, hz⟩ := opE_some q
        have hz' := hz
        unfold oIndex at hz
        split at hz
        · rename_i t et
          obtain ⟨zs, h1, hz⟩ := Option.bind_eq_some_iff.mp hz
          obtain ⟨j, hj, rfl⟩ := Option.map_eq_some_iff.mp hz
          have ev := strs_ok (ow.rp o1.rest.ex) h1
          subst ev
          intro w H2 Hz2 es2 ez2 k2 S2 o2
          have ew := o2.view.str et
          subst ew
          obtain ⟨g1, g2⟩ := find_first hj
          refine ⟨p, zs.map V.str, .str t, j, .str t, rfl, rfl, .of (k2 rfl _ _ hp), rfl, flat_strs zs, by rw [List.getElem?_map, g1]; rfl, by simp [eqV], fun m z' hm hz' => ?_, ?_⟩
          · rw [List.getElem?_map] at hz'
            obtain ⟨u, hu, rfl⟩ := Option.map_eq_some_iff.mp hz'
            have : u ≠ t := fun e => g2 m hm (by rw [hu, e])
            simp [eqV, this]
          · exact fin2 hz' (ez.trans ez2) (fun h => (k (hs h)).trans (k2 rfl)) S2 q _ _ _ (Ex.refl _) (Ex.refl _) (.pure (.int _) o2.rest)
        · cases hz
    · exact q.elim
end
theorem Fx.gstr {fa : List He.Fa} {us : List Ck} {fn : List He.DefD} {K : PySem.W.Frag} {mg : Str → Option Value} (F : Fx fa us fn K mg) (i : Nat) {x z : Str} (h : fa[i]? = some (.str x z) := by rfl) : ∃ t, mg x = some (.str z t) := F.ex.elim fun _ q => He.str_ok q.1 q.2 (F.fact i h)
end Pd
end
section
/-! Pd: a law's end over a head by facts, its defs such as may raise. -/
namespace Pd
open PySem PySem.Spec PyProof.Rows L2
theorem walk_end {l : PySem.W.OpenLaw} {n k : Nat} {q : Program} {loose : List Str} {XP : (Str → Option Value) → Heap → Prop} {YP : World → Heap → Prop} {d : DefRec} {x : Str}
    (hn : l.most = some n) (hn2 : n ≤ sizeLine) (hdf : d.params.defaults = []) (hr : Room k callerA)
    (F : ∀ (w : World) (mg : Str → Option Value) (fa : Addr) (h : Heap), YP w h → h.Ns mainGlobals mg → mg d.name = some (.ref fa) →
      ∃ (K : PySem.W.Frag) (fd : FuncData) (sp : Sp), K.In h ∧ (∀ (s : Shared) (u : Value), BindsTo s fd ⟨[u], []⟩ [(x, u)]) ∧
        (∀ (H : Hp) (a : Addr) (ns : List Int), ns.length ≤ n → SqL K H a (ns.map V.int) → sp [.ref a] H (fun v _ => v = .bl true) fun _ _ _ => False) ∧
        ∀ base : Heap, K.In base → base.Ns mainGlobals mg → FnOk l.prog w K mg base (L2.CX l.prog w) k fa fd [x] sp) :
    PySem.W.WalkO q loose XP YP l.row.toRowW d [] (fun f vs => PySem.call f vs) := by
  refine Att.attach_call hn hdf fun w s₀ s₁ mg mb fa o pm cd doc a vs ns G Y ho hd hcd hmg hobj hints hlen hg => ?_
  obtain ⟨K, fd, sp, KX, hb, hsp, hF⟩ := F w mg fa _ Y G.T.g hmg
  refine law_call KX G.T.g G.T.b G.T.builtins G.T.nolimit hg hobj hints (Nat.le_trans hlen hn2) hr hF hb (fun H hO hS => hsp H a ns hlen hS) fun H e s' h => ?_
  obtain ⟨_, _, _, _, _, _, _, _, _, _, _, _, z⟩ := h
  exact z.elim
/-- the law's def, its facts told over any heap -/
theorem law_end {P : Program} {w : World} {K : PySem.W.Frag} {mg : Str → Option Value} {h : Heap} {fa0 : Addr} {n k : Nat} {x : Str} {fa : List He.Fa} {ck : List Ck} {fn : List He.DefD} {d : He.DefD} {N : List Str} {fc : FnC} {i j : Nat}
    (KX : K.In h) (G : h.Ns mainGlobals mg) (S : Says fa ck fn K) (hm : mg ("law" : Str) = some (.ref fa0)) (hg : fa[j]? = some (.glo ("law" : Str))) (hd : fn[i]? = some d) (hat : d.at_ = (("law" : Str), none)) (hdf : d.dfl = [])
    (SC : FnScope N [x] d.scope) (h1 : fc.np = 1) (h2 : N.length = fc.ns) (h3 : fc.io.length = 1)
    (hbd : ∀ (kV doc pm : Value) (an : Option Addr) (cdv ct : Value) (us : List Value), us.length = [x].length → bindArgs (PySem.W.fnOf d.name d.qual d.params d.body d.scope .none kV doc pm an cdv ct) ⟨us, []⟩ = pure ([x].zip us))
    (hb : ∀ (base : Heap), Fx fa ck fn K mg → ∀ (cdv : Value) (A : Around) (outer : List Env) (s : Shared) (H : Hp) (E : XK), Room k (A.deeper (envOfC d.qual d.scope s.heap.objs.size (He.fAd K d.at_) cdv)) →
      SB (cxOf (L2.CX P w) P w K mg base N d.qual d.scope (He.fAd K d.at_) cdv A outer s H E) (fun cls d _ H => E cls d H) (ioIx fc.io) d.body fc.body)
    (hl : ∀ ns : List Int, ns.length ≤ n → ∃ os, runFn fc [pureV (.frl (ns.map .int))] = .ok (pureV (.bl true)) os) :
    ∃ (K : PySem.W.Frag) (fd : FuncData) (sp : Sp), K.In h ∧ (∀ (s : Shared) (u : Value), BindsTo s fd ⟨[u], []⟩ [(x, u)]) ∧
        (∀ (H : Hp) (a : Addr) (ns : List Int), ns.length ≤ n → SqL K H a (ns.map V.int) → sp [.ref a] H (fun v _ => v = .bl true) fun _ _ _ => False) ∧
        ∀ base : Heap, K.In base → base.Ns mainGlobals mg → FnOk P w K mg base (L2.CX P w) (k + 1) fa0 fd [x] sp := by
  have F : Fx fa ck fn K mg := ⟨⟨h, KX, G⟩, S⟩
  obtain ⟨fd, Fd⟩ := F.def_ i (d := d) hd
  have e : fa0 = He.fAd K d.at_ := by
    have e1 := hm.symm.trans (F.glo j hg)
    rw [hat]
    cases e1
    rfl
  subst e
  have hdv : d.dvs K = [] := by unfold He.DefD.dvs; rw [hdf]; rfl
  rw [hdv] at Fd
  refine ⟨K, fd, spF K fc.np (runFn fc), KX, fun s u => FunD.bindsA (ps := [x]) Fd hbd s [u] rfl, ?_, fun base kb gb => ?_⟩
  · intro H a ns hn hs
    rw [h1]
    exact end_law (n := n) hl H a ns hn hs
  · exact def_ok Fd SC (by rw [h1]; rfl) h2 (by rw [h3, h1]) ioIx_ok (hb base F)
end Pd
end
section
/-! Pd: how the programs on trees are run by simp. -/
namespace Pd
open PySem L2
theorem nr {α : Type} {a b : α} (h : a = b) : a = b := h
section
variable {fa fb fc : EF} {f g : SF} {ρ ρ1 : Vr} {x y : RV} {d : D}
@[simp] theorem run_seq : sSeq f g ρ = (f ρ).bind g := nr rfl
@[simp] theorem run_nil : sNil ρ = .nx ρ := nr rfl
@[simp] theorem run_never : sNever ρ = .stuck := nr rfl
@[simp] theorem run_bk : sBk ρ = .bk ρ := nr rfl
@[simp] theorem run_ct : sCt ρ = .ct ρ := nr rfl
@[simp] theorem run_rtn : sRtN ρ = .rt (pureV .non) ρ := nr rfl
@[simp] theorem run_rt : sRt fa ρ = (fa ρ).bindS fun x ρ1 => .rt x ρ1 := nr rfl
@[simp] theorem run_ex : sEx fa ρ = (fa ρ).bindS fun _ ρ1 => .nx ρ1 := nr rfl
@[simp] theorem run_as {i : Nat} : sAs i fa ρ = (fa ρ).bindS fun x ρ1 => if x.b = false ∧ i < ρ1.length then .nx (ρ1.set i (some (x.q, x.d))) else .stuck := nr rfl
@[simp] theorem run_if : sIf fc f g ρ = (fc ρ).bindS fun x ρ1 => match x.d with
  | .bl true => f ρ1
  | .bl false => g ρ1
  | _ => .stuck := nr rfl
@[simp] theorem run_try : sTry f ρ = (match f ρ with
  | .exc _ _ _ _ => .stuck
  | r => r) := nr rfl
@[simp] theorem run_c : eC d ρ = .ok (pureV d) ρ := nr rfl
@[simp] theorem run_var {i : Nat} : eVar i ρ = (match ρ[i]? with
  | some (some (m, d)) => if m = 0 ∨ immut d = true then .ok (pureV d) ρ else .ok ⟨m, true, d⟩ ρ
  | _ => .stuck) := nr rfl
@[simp] theorem run_use {i : Nat} : eUse i ρ = (match ρ[i]? with
  | some (some (_, d)) => .ok (pureV d) (ρ.set i (some (0, d)))
  | _ => .stuck) := nr rfl
@[simp] theorem run_mv {i : Nat} : eMv i ρ = (match ρ[i]? with
  | some (some (m, d)) => .ok ⟨m, false, d⟩ (ρ.set i none)
  | _ => .stuck) := nr rfl
@[simp] theorem run_e1 {op : Op1} : e1 op fa ρ = (fa ρ).bind fun x ρ1 => opE (op x) ρ1 := nr rfl
@[simp] theorem run_e2 {sb : Bool} {op : Op2} : e2 sb op fa fb ρ = (fa ρ).bind fun x ρ1 => if (x.b && !sb) = true then .stuck else (fb ρ1).bind fun y ρ2 => opE (op x y) ρ2 := nr rfl
@[simp] theorem run_eif : eIf fc fa fb ρ = (fc ρ).bind fun x ρ1 => match x.d with
  | .bl true => fa ρ1
  | .bl false => fb ρ1
  | _ => .stuck := nr rfl
@[simp] theorem run_fld {ft : Nm → List Nm} {n : Nm} : eFld ft n fa ρ = (fa ρ).bind fun x ρ1 => opE (oFld ft n x) ρ1 := nr rfl
@[simp] theorem run_frl : eFrl fa ρ = (fa ρ).bind fun x ρ1 => match x.d with
  | .lst ds => if x.b = true then .stuck else .ok (pureV (.frl ds)) ρ1
  | _ => .ok x ρ1 := nr rfl
@[simp] theorem run_tup {as : List Ar} : eTup as ρ = (evA as ρ).bind fun xs ρ1 => if xs.length ≤ BIG then .ok (pureV (.tup (xs.map (·.d)))) ρ1 else .stuck := nr rfl
@[simp] theorem run_lst {as : List Ar} : eLst as ρ = (evA as ρ).bind fun xs ρ1 => if xs.length ≤ BIG then .ok ⟨1, false, .lst (xs.map (·.d))⟩ ρ1 else .stuck := nr rfl
@[simp] theorem run_chain {g g' : Int → Int → Bool} : eChain g g' fa fb fc ρ = (fa ρ).bind fun x ρ1 => match x.d with
  | .int i => (fb ρ1).bind fun y ρ2 => match y.d with
    | .int j => if g i j = true then (fc ρ2).bind fun z ρ3 => match z.d with
        | .int k => .ok (pureV (.bl (g' j k))) ρ3
        | _ => .stuck
      else .ok (pureV (.bl false)) ρ2
    | _ => .stuck
  | _ => .stuck := nr rfl
@[simp] theorem run_opS {z : RV} : opE (some z) ρ = .ok z ρ := nr rfl
@[simp] theorem run_opN : opE none ρ = .stuck := nr rfl
@[simp] theorem evA_nil : evA [] ρ = .ok [] ρ := nr rfl
@[simp] theorem evA_ev {r : List Ar} : evA (.ev fa :: r) ρ = (match fa ρ with
    | .ok x ρ1 => if x.b = true then .stuck else match evA r ρ1 with
      | .ok xs ρ2 => .ok (x :: xs) ρ2
      | .exc C ns ys ρ' => .exc C ns ys ρ'
      | .stuck => .stuck
    | .exc C ns ys ρ' => .exc C ns ys ρ'
    | .stuck => .stuck) := nr rfl
@[simp] theorem evA_io {i : Nat} {r : List Ar} : evA (.io i :: r) ρ = (match ρ[i]? with
    | some (some (m, d)) => match evA r (ρ.set i none) with
      | .ok xs ρ2 => .ok (⟨m, false, d⟩ :: xs) ρ2
      | .exc C ns ys ρ' => .exc C ns ys ρ'
      | .stuck => .stuck
    | _ => .stuck) := nr rfl
@[simp] theorem run_call {cl : List RV → RC} {dfl : List D} {as : List Ar} : eCall cl dfl as ρ = (evA as ρ).bind fun xs ρ1 => match cl (xs ++ dfl.map pureV) with
  | .ok x os => if x.b = true then .stuck else .ok x (giveBack as os ρ1)
  | .exc C ns ys => .exc C ns ys ρ1
  | .stuck => .stuck := nr rfl
@[simp] theorem gb_nil {os : List Slot} : giveBack [] os ρ = ρ := by cases os <;> rfl
@[simp] theorem gb_nil2 {as : List Ar} : giveBack as [] ρ = ρ := by
  cases as with
  | nil => rfl
  | cons a as => cases a <;> rfl
@[simp] theorem gb_ev {o : Slot} {os : List Slot} {as : List Ar} : giveBack (.ev fa :: as) (o :: os) ρ = giveBack as os ρ := nr rfl
@[simp] theorem gb_ioN {i : Nat} {os : List Slot} {as : List Ar} : giveBack (.io i :: as) (none :: os) ρ = giveBack as os ρ := nr rfl
@[simp] theorem gb_ioS {i : Nat} {s : Nat × D} {os : List Slot} {as : List Ar} : giveBack (.io i :: as) (some s :: os) ρ = giveBack as os (ρ.set i (some s)) := nr rfl
@[simp] theorem outs_nil : outs [] ρ = [] := nr rfl
@[simp] theorem outs_t {io : List Bool} {s : Slot} : outs (true :: io) (s :: ρ) = s :: outs io ρ := nr rfl
@[simp] theorem outs_f {io : List Bool} {s : Slot} : outs (false :: io) (s :: ρ) = none :: outs io ρ := nr rfl
@[simp] theorem oIdx_lst {q : Nat} {b : Bool} {q' : Nat} {b' : Bool} {ds : List D} {i : Int} : oIdx ⟨q, b, .lst ds⟩ ⟨q', b', .int i⟩ = (atI ds i).bind (part ⟨q, b, .lst ds⟩) := nr rfl
@[simp] theorem oIdx_frl {q : Nat} {b : Bool} {q' : Nat} {b' : Bool} {ds : List D} {i : Int} : oIdx ⟨q, b, .frl ds⟩ ⟨q', b', .int i⟩ = (atI ds i).map pureV := nr rfl
@[simp] theorem oIdx_tup {q : Nat} {b : Bool} {q' : Nat} {b' : Bool} {ds : List D} {i : Int} : oIdx ⟨q, b, .tup ds⟩ ⟨q', b', .int i⟩ = (atI ds i).map pureV := nr rfl
@[simp] theorem part_0 {b : Bool} {d c : D} : part ⟨0, b, d⟩ c = some (pureV c) := by simp [part]
@[simp] theorem part_1 {b : Bool} {d c : D} : part ⟨1, b, d⟩ c = some (pureV c) := by simp [part]
@[simp] theorem part_i {q : Nat} {b : Bool} {d : D} {i : Int} : part ⟨q, b, d⟩ (.int i) = some (pureV (.int i)) := by simp [part, immut]
@[simp] theorem oSub_i {q q' : Nat} {b b' : Bool} {i j : Int} : oSub ⟨q, b, .int i⟩ ⟨q', b', .int j⟩ = some (pureV (.int (i - j))) := nr rfl
@[simp] theorem oNeg_i {q : Nat} {b : Bool} {i : Int} : oNeg ⟨q, b, .int i⟩ = some (pureV (.int (-i))) := nr rfl
@[simp] theorem oB0_i {g : Int → Int → Bool} {q q' : Nat} {b b' : Bool} {i j : Int} : oB0 g ⟨q, b, .int i⟩ ⟨q', b', .int j⟩ = some (pureV (.bl (g i j))) := nr rfl
end
/-- all turns of a loop that is not left early -/
theorem forL_inv {t : Tg} {f : SF} (P : Nat → Vr → Prop) : ∀ (items : List D) (k : Nat) (ρ0 : Vr), P k ρ0 → (∀ (i : Nat) (d : D) (ρ : Vr), items[i]? = some d → P (k + i) ρ → ∃ ρ1 ρ2, bindT t d ρ = some ρ1 ∧ (f ρ1 = .nx ρ2 ∨ f ρ1 = .ct ρ2) ∧ P (k + i + 1) ρ2) → ∃ ρ', forL t f items ρ0 = .nx ρ' ∧ P (k + items.length) ρ'
  | [], k, ρ0, h0, _ => ⟨ρ0, rfl, h0⟩
  | d :: ds, k, ρ0, h0, hs => by
    obtain ⟨ρ1, ρ2, e1, e2, h1⟩ := hs 0 d ρ0 rfl h0
    obtain ⟨ρ', e3, h3⟩ := forL_inv P ds (k + 1) ρ2 h1 fun i d ρ hi hp => by
      have := hs (i + 1) d ρ (by simpa using hi) (by rw [show k + (i + 1) = k + 1 + i by omega]; exact hp)
      rw [show k + (i + 1) + 1 = k + 1 + i + 1 by omega] at this
      exact this
    refine ⟨ρ', ?_, by rw [List.length_cons, show k + (ds.length + 1) = k + 1 + ds.length by omega]; exact h3⟩
    unfold forL
    rw [e1]
    rcases e2 with e2 | e2 <;> (dsimp only; rw [e2]; exact e3)
/-- a comprehension whose elements change nothing: kept where p, then g -/
theorem compL_ok {vs : List Nat} {t : Tg} {ft fe : EF} {ρ : Vr} (p : D → Bool) (g : D → D) : ∀ (items acc : List D), (∀ d ∈ items, ∃ ρ1 q b ρ2, bindT t d ρ = some ρ1 ∧ ft ρ1 = .ok ⟨q, b, .bl (p d)⟩ ρ2 ∧ (p d = false → wipeV ρ2 vs = ρ) ∧
      (p d = true → ∃ q ρ3, fe ρ2 = .ok ⟨q, false, g d⟩ ρ3 ∧ wipeV ρ3 vs = ρ)) → acc.length + items.length ≤ BIG → compL vs t ft fe items acc ρ = .ok ⟨1, false, .lst (acc ++ (items.filter p).map g)⟩ ρ
  | [], acc, _, _ => by simp [compL]
  | d :: ds, acc, h, hl => by
    obtain ⟨ρ1, q, b, ρ2, e1, e2, h1, h2⟩ := h d List.mem_cons_self
    unfold compL
    rw [e1]
    dsimp only
    rw [e2]
    rw [List.length_cons] at hl
    cases hp : p d with
    | false =>
      dsimp only
      rw [h1 hp, compL_ok p g ds acc (fun x hx => h x (List.mem_cons_of_mem _ hx)) (by omega), List.filter_cons_of_neg (by simp [hp])]
    | true =>
      obtain ⟨q3, ρ3, e3, e4⟩ := h2 hp
      dsimp only
      rw [e3]
      dsimp only
      rw [if_pos ⟨rfl, by omega⟩, e4, compL_ok p g ds (acc ++ [g d]) (fun x hx => h x (List.mem_cons_of_mem _ hx)) (by rw [List.length_append, List.length_singleton]; omega), List.filter_cons_of_pos hp, List.map_cons, List.append_assoc]
      rfl
end Pd
namespace Pd
open PySem L2
section
variable {q q' : Nat} {b b' : Bool} {i j : Int}
@[simp] theorem oAdd_i : oAdd ⟨q, b, .int i⟩ ⟨q', b', .int j⟩ = some (pureV (.int (i + j))) := nr rfl
@[simp] theorem oMod_i (h : 0 < j) : oMod ⟨q, b, .int i⟩ ⟨q', b', .int j⟩ = some (pureV (.int (i % j))) := by
  simp [oMod, oI, h]
@[simp] theorem oDiv_i (h : 0 < j) (h2 : j < 1073741824) : oDiv ⟨q, b, .int i⟩ ⟨q', b', .int j⟩ = some (pureV (.int (i / j))) := by
  simp [oDiv, oI, h, h2]
theorem oMul_l (h : i.natAbs < 18446744073709551616) : oMul ⟨q, b, .int i⟩ ⟨q', b', .int j⟩ = some (pureV (.int (i * j))) := by
  simp [oMul, h]
theorem oMul_r (h : j.natAbs < 18446744073709551616) : oMul ⟨q, b, .int i⟩ ⟨q', b', .int j⟩ = some (pureV (.int (i * j))) := by
  simp [oMul, h]
theorem oPow_i (h : 0 ≤ j ∧ j ≤ 1000000 ∧ i.natAbs < 18446744073709551616) : oPow ⟨q, b, .int i⟩ ⟨q', b', .int j⟩ = some (pureV (.int (i ^ j.toNat))) := by
  simp [oPow, oI, h]
@[simp] theorem oLen_l {ds : List D} : oLen ⟨q, b, .lst ds⟩ = some (pureV (.int ds.length)) := nr rfl
@[simp] theorem oLen_f {ds : List D} : oLen ⟨q, b, .frl ds⟩ = some (pureV (.int ds.length)) := nr rfl
@[simp] theorem oLen_t {ds : List D} : oLen ⟨q, b, .tup ds⟩ = some (pureV (.int ds.length)) := nr rfl
@[simp] theorem oEq_i {neg : Bool} : oEqD neg ⟨q, b, .int i⟩ ⟨q', b', .int j⟩ = some (pureV (.bl ((i == j) != neg))) := nr rfl
end
theorem atI_map {α β : Type} (g : α → β) (xs : List α) (i : Int) : atI (xs.map g) i = (atI xs i).map g := by
  unfold atI
  rw [List.length_map]
  cases ixN xs.length i with
  | none => rfl
  | some k => simp
theorem atI_nat {α : Type} (xs : List α) (k : Nat) : atI xs (k : Int) = xs[k]? := by
  unfold atI ixN
  rw [if_pos (Int.natCast_nonneg k)]
  split
  · simp
  · rename_i h
    simp at h
    simp [h]
theorem atI_pos {α : Type} {xs : List α} {i : Int} (h : 0 ≤ i) : atI xs i = xs[i.toNat]? := by
  obtain ⟨k, rfl⟩ := Int.eq_ofNat_of_zero_le h
  exact atI_nat xs k
theorem atI_lit {α : Type} (xs : List α) (k : Nat) [OfNat Int k] (h : (OfNat.ofNat k : Int) = (k : Int)) : atI xs (OfNat.ofNat k : Int) = xs[k]? := by
  rw [h]; exact atI_nat xs k
/-! locators, changes -/
section
variable {fa fb : EF} {f : SF} {ρ : Vr} {lc : LF} {fy : EF} {sy : Bool} {t : Tg} {fi : IF} {m i : Nat} {d : D}
@[simp] theorem run_app : sApp sy lc fy ρ = (match lc ρ with
  | .ok i p ρ1 => if lstAt i p ρ1 = true ∧ (sy = true ∨ p = []) then (fy ρ1).bindS fun y ρ2 => if y.b = true then .stuck else mutS i p ρ2 (appK y) else .stuck
  | .stuck => .stuck) := nr rfl
@[simp] theorem run_ext : sExt sy lc fy ρ = (match lc ρ with
  | .ok i p ρ1 => if lstAt i p ρ1 = true ∧ (sy = true ∨ p = []) then (fy ρ1).bindS fun y ρ2 => if y.b = true then .stuck else mutS i p ρ2 (extK y) else .stuck
  | .stuck => .stuck) := nr rfl
@[simp] theorem run_lvar : lVar i ρ = (match ρ[i]? with
  | some (some _) => .ok i [] ρ
  | _ => .stuck) := nr rfl
@[simp] theorem run_lstAt {p : List Nat} : lstAt i p ρ = (match ρ[i]? with
  | some (some (_, d)) => match getP d p with
    | some c => isLst c
    | none => false
  | _ => false) := nr rfl
@[simp] theorem isLst_l {ds : List D} : isLst (.lst ds) = true := nr rfl
@[simp] theorem getP_nil : getP d [] = some d := nr rfl
@[simp] theorem setP_nil {c : D} : setP d [] c = c := nr rfl
@[simp] theorem run_mutS {p : List Nat} {k : Nat → D → Option D} : mutS i p ρ k = (match mutO i p ρ k with
  | some ρ' => .nx ρ'
  | none => .stuck) := nr rfl
@[simp] theorem run_mutO {p : List Nat} {k : Nat → D → Option D} : mutO i p ρ k = (match ρ[i]? with
  | some (some (m, d)) => match getP d p with
    | some c => if p.length < m then (k (m - p.length - 1) c).map fun c' => ρ.set i (some (m, setP d p c')) else none
    | none => none
  | _ => none) := nr rfl
@[simp] theorem appK_l {y : RV} {j : Nat} {ds : List D} : appK y j (.lst ds) = (if ds.length < BIG ∧ (j ≤ y.q ∨ immut y.d = true) then some (.lst (ds ++ [y.d])) else none) := nr rfl
@[simp] theorem run_for : sFor t fi f ρ = (fi ρ).bindS fun items _ ρ1 => forL t f items ρ1 := nr rfl
@[simp] theorem run_iR1 : iR1 fa ρ = (fa ρ).bindI fun x ρ1 => match x.d with
  | .int j => if RB j then .ok (rng 0 j.toNat) (pureV .non) ρ1 else .stuck
  | _ => .stuck := nr rfl
@[simp] theorem run_iR2 : iR2 fa fb ρ = (fa ρ).bindI fun x ρ1 => (fb ρ1).bindI fun y ρ2 => match x.d, y.d with
  | .int i, .int j => if RB i ∧ RB j then .ok (rng i (j - i).toNat) (pureV .non) ρ2 else .stuck
  | _, _ => .stuck := nr rfl
@[simp] theorem run_iA : iA fa ρ = (fa ρ).bindI fun x ρ1 => if x.b = true then .stuck else match x.d with
  | .lst ds => if x.q ≤ 1 then .ok ds x ρ1 else .stuck
  | .frl ds => .ok ds x ρ1
  | .tup ds => .ok ds (pureV x.d) ρ1
  | _ => .stuck := nr rfl
@[simp] theorem bind_nm : bindT (.nm i) d ρ = if i < ρ.length then some (ρ.set i (some (0, d))) else none := nr rfl
@[simp] theorem bind_tp {is : List Nat} {ds : List D} : bindT (.tp is) (.tup ds) ρ = setAll is ds ρ := nr rfl
@[simp] theorem setAll_nil : setAll [] [] ρ = some ρ := nr rfl
@[simp] theorem setAll_cons {is : List Nat} {ds : List D} : setAll (i :: is) (d :: ds) ρ = if i < ρ.length then setAll is ds (ρ.set i (some (0, d))) else none := nr rfl
@[simp] theorem run_stp {is : List Nat} : sTp is fa ρ = (fa ρ).bindS fun x ρ1 => match x.d with
  | .tup ds => match setAll is ds ρ1 with
    | some ρ2 => .nx ρ2
    | none => .stuck
  | _ => .stuck := nr rfl
@[simp] theorem imm_i {i : Int} : immut (.int i) = true := nr rfl
@[simp] theorem imm_b {b : Bool} : immut (.bl b) = true := nr rfl
@[simp] theorem imm_n : immut .non = true := nr rfl
@[simp] theorem imm_t {ds : List D} : immut (.tup ds) = true := nr rfl
@[simp] theorem imm_f {ds : List D} : immut (.frl ds) = true := nr rfl
@[simp] theorem imm_s {x : Str} : immut (.str x) = true := nr rfl
@[simp] theorem imm_l {ds : List D} : immut (.lst ds) = false := nr rfl
@[simp] theorem imm_ins {C : Nm} {ns : List Nm} {ds : List D} : immut (.ins C ns ds) = false := nr rfl
@[simp] theorem run_slc {lo hi : Option EF} : eSlc fa lo hi ρ = (fa ρ).bind fun x ρ1 => if (x.b && !true) = true then .stuck else (evO lo ρ1).bind fun l ρ2 => match asO lo l with
  | some i => (evO hi ρ2).bind fun h ρ3 => match asO hi h with
    | some j => opE (oSlc x i j) ρ3
    | none => .stuck
  | none => .stuck := nr rfl
@[simp] theorem evO_n : evO none = eC .non := nr rfl
@[simp] theorem evO_s : evO (some fa) = fa := nr rfl
@[simp] theorem asO_n {x : RV} : asO none x = some none := nr rfl
@[simp] theorem asO_i {q : Nat} {b : Bool} {i : Int} : asO (some fa) ⟨q, b, .int i⟩ = some (some i) := nr rfl
@[simp] theorem oSlc_1 {b : Bool} {ds : List D} {lo hi : Option Int} : oSlc ⟨1, b, .lst ds⟩ lo hi = some ⟨1, false, .lst (cutD ds lo hi)⟩ := by simp [oSlc]
@[simp] theorem oSlc_0 {b : Bool} {ds : List D} {lo hi : Option Int} : oSlc ⟨0, b, .lst ds⟩ lo hi = some ⟨1, false, .lst (cutD ds lo hi)⟩ := by simp [oSlc]
@[simp] theorem oSlc_f {q : Nat} {b : Bool} {ds : List D} {lo hi : Option Int} : oSlc ⟨q, b, .frl ds⟩ lo hi = some ⟨1, false, .lst (cutD ds lo hi)⟩ := nr rfl
@[simp] theorem oSlc_t {q : Nat} {b : Bool} {ds : List D} {lo hi : Option Int} : oSlc ⟨q, b, .tup ds⟩ lo hi = some (pureV (.tup (cutD ds lo hi))) := nr rfl
end
theorem rng0 (n : Nat) : rng 0 n = (List.range' 0 n).map fun i : Nat => D.int (i : Int) := by
  unfold rng
  rw [List.range_eq_range']
  apply List.map_congr_left
  intro i _
  simp
theorem rng_nat (a n : Nat) : rng (a : Int) n = (List.range' a n).map fun i : Nat => D.int (i : Int) := by
  unfold rng
  rw [List.range'_eq_map_range, List.map_map]
  apply List.map_congr_left
  intro i _
  simp
@[simp] theorem cutD_from (ds : List D) (k : Nat) : cutD ds (some (k : Int)) none = ds.drop k := by
  unfold cutD HT.sIx
  have h0 : ¬ ((k : Int) < 0) := by omega
  simp only [if_neg h0, Int.toNat_natCast]
  by_cases h : k ≤ ds.length
  · rw [Nat.min_eq_left h]
    exact List.take_of_length_le (by simp)
  · rw [Nat.min_eq_right (by omega), List.drop_eq_nil_of_le (Nat.le_refl _), List.drop_eq_nil_of_le (by omega)]
    simp
@[simp] theorem cutD_to (ds : List D) (k : Nat) : cutD ds none (some (k : Int)) = ds.take k := by
  unfold cutD HT.sIx
  have h0 : ¬ ((k : Int) < 0) := by omega
  simp only [if_neg h0, Int.toNat_natCast, List.drop_zero, Nat.sub_zero]
  by_cases h : k ≤ ds.length
  · rw [Nat.min_eq_left h]
  · rw [Nat.min_eq_right (by omega), List.take_of_length_le (Nat.le_refl _), List.take_of_length_le (by omega)]
theorem cutD_1 (ds : List D) : cutD ds (some 1) none = ds.drop 1 := cutD_from ds 1
theorem run_methI {ms : MTab} {m : Nm} {i : Nat} {as : List Ar} {ρ : Vr} : eMeth ms m (.io i) as ρ = (match ρ[i]? with
    | some (some (m0, d0)) => match recv ms m ⟨m0, false, d0⟩ with
      | some (_, cl, dfl) => (evA as ρ).bind fun xs ρ1 => match ρ1[i]? with
         | some (some (m1, d1)) => callEnd cl dfl (.io i :: as) (⟨m1, false, d1⟩ :: xs) (ρ1.set i none)
         | _ => .stuck
      | none => .stuck
    | _ => .stuck) := nr rfl
@[simp] theorem run_callEnd {cl : List RV → RC} {dfl : List D} {as : List Ar} {xs : List RV} {ρ : Vr} : callEnd cl dfl as xs ρ = (match cl (xs ++ dfl.map pureV) with
  | .ok x os => if x.b = true then .stuck else .ok x (giveBack as os ρ)
  | .exc C ns ys => .exc C ns ys ρ
  | .stuck => .stuck) := nr rfl
def absI (i : Int) : Int := if i < 0 then -i else i
@[simp] theorem oAbs_i {q : Nat} {b : Bool} {i : Int} : oAbs ⟨q, b, .int i⟩ = some (pureV (.int (absI i))) := nr rfl
def maxI (i j : Int) : Int := if j > i then j else i
@[simp] theorem oMax2_i {q q' : Nat} {b b' : Bool} {i j : Int} : oMax2 ⟨q, b, .int i⟩ ⟨q', b', .int j⟩ = some (pureV (.int (maxI i j))) := nr rfl
def getI (xs : List Int) (i : Int) : Int := xs.getD i.toNat 0
theorem atI_int {xs : List Int} {i : Int} (h : 0 ≤ i) (h2 : i < xs.length) : atI (xs.map D.int) i = some (.int (getI xs i)) := by
  rw [atI_map, atI_pos h]
  have : i.toNat < xs.length := by omega
  simp [getI, List.getElem?_eq_getElem this, List.getD_eq_getElem?_getD]
@[simp] theorem zB1 : (1 : Nat) ≤ BIG := by decide
@[simp] theorem zB2 : (2 : Nat) ≤ BIG := by decide
@[simp] theorem zB3 : (3 : Nat) ≤ BIG := by decide
@[simp] theorem zB4 : (4 : Nat) ≤ BIG := by decide
@[simp] theorem zB5 : (5 : Nat) ≤ BIG := by decide
@[simp] theorem zB6 : (6 : Nat) ≤ BIG := by decide
@[simp] theorem zB7 : (7 : Nat) ≤ BIG := by decide
@[simp] theorem zB8 : (8 : Nat) ≤ BIG := by decide
@[simp] theorem zB9 : (9 : Nat) ≤ BIG := by decide
@[simp] theorem zB10 : (10 : Nat) ≤ BIG := by decide
@[simp] theorem zB11 : (11 : Nat) ≤ BIG := by decide
@[simp] theorem zB12 : (12 : Nat) ≤ BIG := by decide
@[simp] theorem run_fl {ft : Nm → List Nm} {i : Nat} {n : Nm} {fa : EF} {ρ : Vr} : sFl ft i n fa ρ = (fa ρ).bindS fun y ρ1 => if y.b = true then .stuck else match ρ1[i]? with
  | some (some (m + 1, .ins C ns ds)) => if n ∈ ft C ∧ ns.length < 100 ∧ (m ≤ y.q ∨ immut y.d = true) then .nx (ρ1.set i (some (m + 1, .ins C (putNs n ns) (putDs n y.d ns ds)))) else .stuck
  | _ => .stuck := nr rfl
@[simp] theorem run_make {C : Nm} {m : Nat} {cl : List RV → RC} {dfl : List D} {as : List Ar} {ρ : Vr} : eMake C m cl dfl as ρ = (evA as ρ).bind fun xs ρ1 => match cl (⟨m + 1, false, .ins C [] []⟩ :: (xs ++ dfl.map pureV)) with
  | .ok y os => made y os fun m' d os' => .ok ⟨m', false, d⟩ (giveBack as os' ρ1)
  | .exc C ns ys => .exc C ns ys ρ1
  | .stuck => .stuck := nr rfl
@[simp] theorem made_k {m : Nat} {d : D} {os : List Slot} {k : Nat → D → List Slot → RE} : made (pureV .non) (some (m, d) :: os) k = k m d os := by simp [made, isNon]
@[simp] theorem oNotN_n {q : Nat} {b : Bool} {q' : Nat} {b' : Bool} : oNotN ⟨q, b, .non⟩ ⟨q', b', .non⟩ = some (pureV (.bl false)) := nr rfl
@[simp] theorem oNotN_i {q : Nat} {b : Bool} {q' : Nat} {b' : Bool} {i : Int} : oNotN ⟨q, b, .int i⟩ ⟨q', b', .non⟩ = some (pureV (.bl true)) := nr rfl
@[simp] theorem oNotN_t {q : Nat} {b : Bool} {q' : Nat} {b' : Bool} {ds : List D} : oNotN ⟨q, b, .tup ds⟩ ⟨q', b', .non⟩ = some (pureV (.bl true)) := nr rfl
@[simp] theorem oIsN_n {q : Nat} {b : Bool} {q' : Nat} {b' : Bool} : oIsN ⟨q, b, .non⟩ ⟨q', b', .non⟩ = some (pureV (.bl true)) := nr rfl
@[simp] theorem oIsN_i {q : Nat} {b : Bool} {q' : Nat} {b' : Bool} {i : Int} : oIsN ⟨q, b, .int i⟩ ⟨q', b', .non⟩ = some (pureV (.bl false)) := nr rfl
@[simp] theorem oIsN_t {q : Nat} {b : Bool} {q' : Nat} {b' : Bool} {ds : List D} : oIsN ⟨q, b, .tup ds⟩ ⟨q', b', .non⟩ = some (pureV (.bl false)) := nr rfl
@[simp] theorem oTuple_t {q : Nat} {b : Bool} {ds : List D} : oTuple ⟨q, b, .tup ds⟩ = some (pureV (.tup ds)) := nr rfl
@[simp] theorem oTuple_0 {b : Bool} {ds : List D} : oTuple ⟨0, b, .lst ds⟩ = some (pureV (.tup ds)) := by simp [oTuple]
@[simp] theorem oTuple_1 {b : Bool} {ds : List D} : oTuple ⟨1, b, .lst ds⟩ = some (pureV (.tup ds)) := by simp [oTuple]
end Pd
end
section
noncomputable section
namespace Pd
open PySem L2
def ftl : List (Nm × List Nm) := [(.n_Ask, [.n_kind, .n_first, .n_many, .n_marks, .n_at, .n_asker, .n_latest, .n_behind, .n_early])]
abbrev ft : Nm → List Nm := ftOf ftl
def c__law_text : FnC := ⟨1, 4, [false], sSeq (sAs 1 (eLst [.ev (e2 true oIdx (eVar 0) (eC (.int 0)))])) (sSeq (sIf (e2 true (oEqD true) (e2 true oIdx (eVar 0) (eC (.int 0))) (eC (.str "rest"))) (sApp true (lVar 1) (e1 oStrI (e2 true oIdx (eVar 0) (eC (.int 1))))) (sNil)) (sSeq (sIf (e2 true (oEqD false) (e2 true oIdx (eVar 0) (eC (.int 0))) (eC (.str "read"))) (sApp true (lVar 1) (e1 oStrI (e2 true oIdx (eVar 0) (eC (.int 2))))) (sNil)) (sSeq (sAs 1 (e2 true oAdd (e2 true oAdd (eVar 1) (eLc [2] (.nm 2) (iA (e2 true oIdx (eVar 0) (eC (.int 3)))) (eC (.bl true)) (e1 oStrI (eVar 2)))) (eLst [.ev (eC (.str "at")), .ev (e1 oStrI (e2 true oIdx (eVar 0) (eC (.int 4))))]))) (sSeq (sIf (e2 true (oEqD true) (e2 true oIdx (eVar 0) (eC (.int 5))) (eC (.int 0))) (sAs 1 (e2 true oAdd (eVar 1) (eLst [.ev (eC (.str "for")), .ev (e1 oStrI (e2 true oIdx (eVar 0) (eC (.int 5))))]))) (sNil)) (sSeq (sIf (e2 true oNotN (e2 true oIdx (eVar 0) (eC (.int 6))) (eC (.non))) (sAs 1 (e2 true oAdd (eVar 1) (eLst [.ev (eC (.str "by")), .ev (e1 oStrI (e2 true oIdx (eVar 0) (eC (.int 6))))]))) (sNil)) (sSeq (sIf (e2 true (oEqD true) (e2 true oIdx (eVar 0) (eC (.int 7))) (eTup [])) (sAs 1 (e2 true oAdd (e2 true oAdd (eVar 1) (eLst [.ev (eC (.str "behind"))])) (eLc [3] (.nm 3) (iA (e2 true oIdx (eVar 0) (eC (.int 7)))) (eC (.bl true)) (e1 oStrI (eVar 3))))) (sNil)) (sRt (eSt1 oJoin (eC (.str " ")) (eVar 1)))))))))⟩
def F__law_text : List RV → RC := runFn c__law_text
def c_number_in : FnC := ⟨1, 2, [false], sSeq (sIf (eOr (e2 true (oEqD false) (e1 oLen (eVar 0)) (eC (.int 0))) (e2 true (oB0 fun i j => decide (j < i)) (e1 oLen (eVar 0)) (eC (.int 15)))) (sNever) (sNil)) (sSeq (sFor (.nm 1) (iSt (eUse 0)) (sIf (e2 true oNotSign (eVar 1) (eC (.str "0123456789"))) (sNever) (sNil))) (sSeq (sIf (eAnd (e2 true (oEqD false) (e2 true oIdx (eVar 0) (eC (.int 0))) (eC (.str "0"))) (e2 true (oB0 fun i j => decide (j < i)) (e1 oLen (eVar 0)) (eC (.int 1)))) (sNever) (sNil)) (sRt (e1 oIntS (eVar 0)))))⟩
def F_number_in : List RV → RC := runFn c_number_in
def c_numbers_till : FnC := ⟨3, 4, [false, false, false], sSeq (sAs 3 (eLst [])) (sSeq (sWh (eAnd (e2 true (oB0 fun i j => decide (i < j)) (eVar 1) (e1 oLen (eVar 0))) (e2 true (oEqD true) (e2 true oIdx (eVar 0) (eVar 1)) (eVar 2))) (sSeq (sApp false (lVar 3) (eCall F_number_in [] [.ev (e2 true oIdx (eVar 0) (eVar 1))])) (sAs 1 (e2 true oAdd (eVar 1) (eC (.int 1)))))) (sRt (eTup [.ev (eUse 3), .ev (eUse 1)])))⟩
def F_numbers_till : List RV → RC := runFn c_numbers_till
def c_after_word : FnC := ⟨4, 4, [false, false, false, false], sSeq (sIf (eAnd (e2 true (oB0 fun i j => decide (i < j)) (eVar 1) (e1 oLen (eVar 0))) (e2 true (oEqD false) (e2 true oIdx (eVar 0) (eVar 1)) (eVar 2))) (sSeq (sIf (e2 true (oEqD false) (e2 true oAdd (eVar 1) (eC (.int 1))) (e1 oLen (eVar 0))) (sNever) (sNil)) (sRt (eTup [.ev (eCall F_number_in [] [.ev (e2 true oIdx (eVar 0) (e2 true oAdd (eVar 1) (eC (.int 1))))]), .ev (e2 true oAdd (eVar 1) (eC (.int 2)))]))) (sNil)) (sRt (eTup [.ev (eUse 3), .ev (eUse 1)]))⟩
def F_after_word : List RV → RC := runFn c_after_word
def c_read_tail : FnC := ⟨2, 6, [false, false], sSeq (sIf (e2 true (oB0 fun i j => decide (j ≤ i)) (eVar 1) (e1 oLen (eVar 0))) (sNever) (sNil)) (sSeq (sTp [2, 1] (eCall F_after_word [] [.ev (eUse 0), .ev (eUse 1), .ev (eC (.str "at")), .ev (eC (.non))])) (sSeq (sTp [3, 1] (eCall F_after_word [] [.ev (eUse 0), .ev (eUse 1), .ev (eC (.str "for")), .ev (eC (.int 0))])) (sSeq (sTp [4, 1] (eCall F_after_word [] [.ev (eUse 0), .ev (eUse 1), .ev (eC (.str "by")), .ev (eC (.non))])) (sSeq (sAs 5 (eLst [])) (sSeq (sIf (e2 true (oB0 fun i j => decide (i < j)) (eVar 1) (e1 oLen (eVar 0))) (sSeq (sIf (eOr (e2 true (oEqD true) (e2 true oIdx (eVar 0) (eVar 1)) (eC (.str "behind"))) (e2 true (oEqD false) (e2 true oAdd (eVar 1) (eC (.int 1))) (e1 oLen (eVar 0)))) (sNever) (sNil)) (sSeq (sAs 5 (e2 true oIdx (eCall F_numbers_till [] [.ev (eUse 0), .ev (e2 true oAdd (eVar 1) (eC (.int 1))), .ev (eC (.str "behind"))]) (eC (.int 0)))) (sIf (e2 true (oB0 fun i j => decide (i < j)) (e1 oLen (eVar 5)) (e2 true oSub (e2 true oSub (e1 oLen (eVar 0)) (eVar 1)) (eC (.int 1)))) (sNever) (sNil)))) (sNil)) (sRt (eTup [.ev (eUse 2), .ev (eUse 3), .ev (eUse 4), .ev (eUse 5)])))))))⟩
def F_read_tail : List RV → RC := runFn c_read_tail
def c_check : FnC := ⟨2, 2, [false, false], sIf (eNot (eChain bLe bLe (eC (.int 0)) (eVar 0) (eVar 1))) (sNever) (sNil)⟩
def F_check : List RV → RC := runFn c_check
def c_with_rest : FnC := ⟨4, 6, [false, false, false, false], sSeq (sEx (eCall F_check [] [.ev (eFld ft .n_first (eVar 0)), .ev (e2 true oPow (eC (.int 10)) (eC (.int 6)))])) (sSeq (sEx (eCall F_check [] [.ev (e2 true oSub (eFld ft .n_many (eVar 0)) (eC (.int 1))), .ev (eC (.int 15))])) (sSeq (sEx (eCall F_check [] [.ev (eFld ft .n_at (eVar 0)), .ev (e2 true oPow (eC (.int 10)) (eC (.int 12)))])) (sSeq (sEx (eCall F_check [] [.ev (eUse 1), .ev (eC (.int 20))])) (sSeq (sIf (e2 true oNotN (eVar 2) (eC (.non))) (sEx (eCall F_check [] [.ev (eUse 2), .ev (e2 true oPow (eC (.int 10)) (eC (.int 13)))])) (sNil)) (sSeq (sIf (e2 true oIsN (eVar 3) (eC (.non))) (sAs 3 (eTup [])) (sNil)) (sSeq (sAs 4 (e1 oNeg (eC (.int 1)))) (sSeq (sFor (.nm 5) (iA (eUse 3)) (sSeq (sEx (eCall F_check [] [.ev (eUse 5), .ev (eC (.int 99))])) (sSeq (sIf (e2 true (oB0 fun i j => decide (i ≤ j)) (eVar 5) (eVar 4)) (sNever) (sNil)) (sAs 4 (eUse 5))))) (sSeq (sFl ft 0 .n_asker (eUse 1)) (sSeq (sFl ft 0 .n_latest (eUse 2)) (sSeq (sFl ft 0 .n_behind (e1 oTuple (eVar 3))) (sRt (eMv 0))))))))))))⟩
def F_with_rest : List RV → RC := runFn c_with_rest
def c_AskUU_initUU : FnC := ⟨6, 6, [true, false, false, false, false, false], sSeq (sFl ft 0 .n_kind (eUse 1)) (sSeq (sFl ft 0 .n_first (eUse 2)) (sSeq (sFl ft 0 .n_many (eUse 3)) (sSeq (sFl ft 0 .n_marks (eUse 4)) (sSeq (sFl ft 0 .n_at (eUse 5)) (sSeq (sFl ft 0 .n_asker (eC (.int 0))) (sSeq (sFl ft 0 .n_latest (eC (.non))) (sSeq (sFl ft 0 .n_behind (eTup [])) (sFl ft 0 .n_early (eC (.bl false))))))))))⟩
def F_AskUU_initUU : List RV → RC := runFn c_AskUU_initUU
def c_writing : FnC := ⟨7, 9, [false, false, false, false, false, false, false], sSeq (sFor (.nm 7) (iA (eUse 1)) (sEx (eCall F_check [] [.ev (eUse 7), .ev (e2 true oPow (eC (.int 10)) (eC (.int 9)))]))) (sSeq (sAs 8 (eCall F_with_rest [] [.ev (eMake .n_Ask 0 F_AskUU_initUU [] [.ev (eC (.str "write")), .ev (eUse 0), .ev (e1 oLen (eVar 1)), .ev (e1 oTuple (eVar 1)), .ev (eUse 2)]), .ev (eUse 3), .ev (eUse 4), .ev (eUse 5)])) (sSeq (sFl ft 8 .n_early (eUse 6)) (sRt (eMv 8))))⟩
def F_writing : List RV → RC := runFn c_writing
def c_resting : FnC := ⟨1, 1, [false], sSeq (sEx (eCall F_check [] [.ev (eUse 0), .ev (e2 true oPow (eC (.int 10)) (eC (.int 12)))])) (sRt (eMake .n_Ask 0 F_AskUU_initUU [] [.ev (eC (.str "rest")), .ev (eC (.int 0)), .ev (eC (.int 0)), .ev (eTup []), .ev (eUse 0)]))⟩
def F_resting : List RV → RC := runFn c_resting
def c_reading : FnC := ⟨6, 6, [false, false, false, false, false, false], sRt (eCall F_with_rest [] [.ev (eMake .n_Ask 0 F_AskUU_initUU [] [.ev (eC (.str "read")), .ev (eUse 0), .ev (eUse 1), .ev (eTup []), .ev (eUse 2)]), .ev (eUse 3), .ev (eUse 4), .ev (eUse 5)])⟩
def F_reading : List RV → RC := runFn c_reading
def c_read_line : FnC := ⟨1, 9, [false], sSeq (sAs 1 (eSt1 oSplit (eVar 0) (eC (.str " ")))) (sSeq (sAs 2 (e2 true oIdx (eVar 1) (eC (.int 0)))) (sSeq (sIf (e2 true (oEqD false) (eVar 2) (eC (.str "rest"))) (sSeq (sIf (eOr (e2 true (oEqD true) (e1 oLen (eVar 1)) (eC (.int 3))) (e2 true (oEqD true) (e2 true oIdx (eVar 1) (eC (.int 1))) (eC (.str "at")))) (sNever) (sNil)) (sRt (eCall F_resting [] [.ev (eCall F_number_in [] [.ev (e2 true oIdx (eVar 1) (eC (.int 2)))])]))) (sNil)) (sSeq (sIf (e2 true (oInS true) (eVar 2) (eTup [.ev (eC (.str "read")), .ev (eC (.str "write")), .ev (eC (.str "early"))])) (sNever) (sNil)) (sSeq (sTp [3, 4] (eCall F_numbers_till [] [.ev (eUse 1), .ev (eC (.int 1)), .ev (eC (.str "at"))])) (sSeq (sIf (eOr (e2 true (oB0 fun i j => decide (i < j)) (e1 oLen (eVar 3)) (eC (.int 2))) (eAnd (e2 true (oEqD false) (eVar 2) (eC (.str "read"))) (e2 true (oB0 fun i j => decide (j < i)) (e1 oLen (eVar 3)) (eC (.int 2))))) (sNever) (sNil)) (sSeq (sTp [5, 6, 7, 8] (eCall F_read_tail [] [.ev (eUse 1), .ev (eUse 4)])) (sSeq (sIf (e2 true (oEqD false) (eVar 2) (eC (.str "read"))) (sRt (eCall F_reading [] [.ev (e2 true oIdx (eVar 3) (eC (.int 0))), .ev (e2 true oIdx (eVar 3) (eC (.int 1))), .ev (eUse 5), .ev (eUse 6), .ev (eUse 7), .ev (eUse 8)])) (sNil)) (sRt (eCall F_writing [] [.ev (e2 true oIdx (eVar 3) (eC (.int 0))), .ev (eSlc (eVar 3) (some (eC (.int 1))) none), .ev (eUse 5), .ev (eUse 6), .ev (eUse 7), .ev (eUse 8), .ev (e2 true (oEqD false) (eVar 2) (eC (.str "early")))])))))))))⟩
def F_read_line : List RV → RC := runFn c_read_line
def c__law_whole : FnC := ⟨1, 1, [false], sRt (eAnd (e1 (oIsi "int") (eVar 0)) (eNot (e1 (oIsi "bool") (eVar 0))))⟩
def F__law_whole : List RV → RC := runFn c__law_whole
def c__law_numbers : FnC := ⟨1, 2, [false], sRt (eAnd (e1 (oIsi "tuple") (eVar 0)) (e2 true (oEqN false) (eLc [1] (.nm 1) (iA (eUse 0)) (eNot (eCall F__law_whole [] [.ev (eUse 1)])) (eUse 1)) (eLst [])))⟩
def F__law_numbers : List RV → RC := runFn c__law_numbers
def c__law_same : FnC := ⟨2, 4, [false, false], sSeq (sAs 2 (e2 true oIdx (eVar 1) (eC (.int 0)))) (sSeq (sIf (e2 true (oEqD false) (eVar 2) (eC (.str "early"))) (sAs 2 (eC (.str "write"))) (sNil)) (sSeq (sIf (eOr (eNot (e1 (oIsi "str") (eFld ft .n_kind (eVar 0)))) (eOr (e2 true (oEqD true) (eFld ft .n_kind (eVar 0)) (eVar 2)) (eNot (e1 (oIsi "bool") (eFld ft .n_early (eVar 0)))))) (sRt (eC (.bl false))) (sNil)) (sSeq (sIf (e2 true (oEqD true) (eFld ft .n_early (eVar 0)) (e2 true (oEqD false) (e2 true oIdx (eVar 1) (eC (.int 0))) (eC (.str "early")))) (sRt (eC (.bl false))) (sNil)) (sSeq (sFor (.nm 3) (iA (eLst [.ev (eFld ft .n_first (eVar 0)), .ev (eFld ft .n_many (eVar 0)), .ev (eFld ft .n_at (eVar 0)), .ev (eFld ft .n_asker (eVar 0))])) (sIf (eNot (eCall F__law_whole [] [.ev (eUse 3)])) (sRt (eC (.bl false))) (sNil))) (sSeq (sIf (e2 true (oEqD true) (eLst [.ev (eFld ft .n_first (eVar 0)), .ev (eFld ft .n_many (eVar 0)), .ev (eFld ft .n_at (eVar 0)), .ev (eFld ft .n_asker (eVar 0))]) (eLst [.ev (e2 true oIdx (eVar 1) (eC (.int 1))), .ev (e2 true oIdx (eVar 1) (eC (.int 2))), .ev (e2 true oIdx (eVar 1) (eC (.int 4))), .ev (e2 true oIdx (eVar 1) (eC (.int 5)))])) (sRt (eC (.bl false))) (sNil)) (sSeq (sIf (e2 true oIsN (e2 true oIdx (eVar 1) (eC (.int 6))) (eC (.non))) (sIf (e2 true oNotN (eFld ft .n_latest (eVar 0)) (eC (.non))) (sRt (eC (.bl false))) (sNil)) (sIf (eOr (eNot (eCall F__law_whole [] [.ev (eFld ft .n_latest (eVar 0))])) (e2 true (oEqD true) (eFld ft .n_latest (eVar 0)) (e2 true oIdx (eVar 1) (eC (.int 6))))) (sRt (eC (.bl false))) (sNil))) (sSeq (sIf (eOr (eNot (eCall F__law_numbers [] [.ev (eFld ft .n_marks (eVar 0))])) (e2 true (oEqD true) (eFld ft .n_marks (eVar 0)) (e2 true oIdx (eVar 1) (eC (.int 3))))) (sRt (eC (.bl false))) (sNil)) (sRt (eAnd (eCall F__law_numbers [] [.ev (eFld ft .n_behind (eVar 0))]) (e2 true (oEqD false) (eFld ft .n_behind (eVar 0)) (e2 true oIdx (eVar 1) (eC (.int 7)))))))))))))⟩
def F__law_same : List RV → RC := runFn c__law_same
def c_shown : FnC := ⟨1, 4, [false], sSeq (sAs 1 (eLst [.ev (eFld ft .n_kind (eVar 0))])) (sSeq (sIf (eFld ft .n_early (eVar 0)) (sAs 1 (eLst [.ev (eC (.str "early"))])) (sNil)) (sSeq (sIf (e2 true (oEqD true) (eFld ft .n_kind (eVar 0)) (eC (.str "rest"))) (sApp true (lVar 1) (e1 oStrI (eFld ft .n_first (eVar 0)))) (sNil)) (sSeq (sIf (e2 true (oEqD false) (eFld ft .n_kind (eVar 0)) (eC (.str "read"))) (sApp true (lVar 1) (e1 oStrI (eFld ft .n_many (eVar 0)))) (sNil)) (sSeq (sAs 1 (e2 true oAdd (e2 true oAdd (eVar 1) (eLc [2] (.nm 2) (iA (eFld ft .n_marks (eVar 0))) (eC (.bl true)) (e1 oStrI (eVar 2)))) (eLst [.ev (eC (.str "at")), .ev (e1 oStrI (eFld ft .n_at (eVar 0)))]))) (sSeq (sIf (e2 true (oEqD true) (eFld ft .n_asker (eVar 0)) (eC (.int 0))) (sAs 1 (e2 true oAdd (eVar 1) (eLst [.ev (eC (.str "for")), .ev (e1 oStrI (eFld ft .n_asker (eVar 0)))]))) (sNil)) (sSeq (sIf (e2 true oNotN (eFld ft .n_latest (eVar 0)) (eC (.non))) (sAs 1 (e2 true oAdd (eVar 1) (eLst [.ev (eC (.str "by")), .ev (e1 oStrI (eFld ft .n_latest (eVar 0)))]))) (sNil)) (sSeq (sIf (e2 true (oB0 fun i j => decide (j < i)) (e1 oLen (eFld ft .n_behind (eVar 0))) (eC (.int 0))) (sAs 1 (e2 true oAdd (e2 true oAdd (eVar 1) (eLst [.ev (eC (.str "behind"))])) (eLc [3] (.nm 3) (iA (eFld ft .n_behind (eVar 0))) (eC (.bl true)) (e1 oStrI (eVar 3))))) (sNil)) (sRt (eSt1 oJoin (eC (.str " ")) (eVar 1))))))))))⟩
def F_shown : List RV → RC := runFn c_shown
def c__law_made : FnC := ⟨2, 4, [false, false], sSeq (sIf (e2 true (oEqD false) (e2 true oIdx (eVar 0) (eC (.int 0))) (eC (.str "rest"))) (sRt (eCall F_resting [] [.ev (e2 true oIdx (eVar 0) (eC (.int 4)))])) (sNil)) (sSeq (sAs 2 (e2 true oIdx (eVar 0) (eC (.int 7)))) (sSeq (sAs 3 (e2 true oIdx (eVar 0) (eC (.int 3)))) (sSeq (sIf (e2 true (oEqD false) (e2 true oMod (eVar 1) (eC (.int 2))) (eC (.int 0))) (sSeq (sAs 2 (e1 oList (eVar 2))) (sAs 3 (e1 oList (eVar 3)))) (sNil)) (sSeq (sIf (e2 true (oEqD false) (e2 true oIdx (eVar 0) (eC (.int 0))) (eC (.str "read"))) (sRt (eCall F_reading [] [.ev (e2 true oIdx (eVar 0) (eC (.int 1))), .ev (e2 true oIdx (eVar 0) (eC (.int 2))), .ev (e2 true oIdx (eVar 0) (eC (.int 4))), .ev (e2 true oIdx (eVar 0) (eC (.int 5))), .ev (e2 true oIdx (eVar 0) (eC (.int 6))), .ev (eUse 2)])) (sNil)) (sRt (eCall F_writing [] [.ev (e2 true oIdx (eVar 0) (eC (.int 1))), .ev (eUse 3), .ev (e2 true oIdx (eVar 0) (eC (.int 4))), .ev (e2 true oIdx (eVar 0) (eC (.int 5))), .ev (e2 true oIdx (eVar 0) (eC (.int 6))), .ev (eUse 2), .ev (e2 true (oEqD false) (e2 true oIdx (eVar 0) (eC (.int 0))) (eC (.str "early")))]))))))⟩
def F__law_made : List RV → RC := runFn c__law_made
def c__law_stream : FnC := ⟨2, 5, [false, false], sSeq (sAs 2 (eLst [])) (sSeq (sAs 3 (e2 true oAdd (e2 true oMod (eVar 0) (eC (.int 2147483647))) (eC (.int 48271)))) (sSeq (sFor (.nm 4) (iR1 (e2 true oAdd (eVar 1) (eC (.int 1)))) (sSeq (sAs 3 (e2 true oMod (e2 true oAdd (e2 true oAdd (e2 true oMul (eVar 3) (eVar 3)) (e2 true oMul (eC (.int 48271)) (eVar 3))) (eVar 4)) (eC (.int 2147483647)))) (sApp true (lVar 2) (eUse 3)))) (sRt (eSlc (eVar 2) (some (eC (.int 1))) none))))⟩
def F__law_stream : List RV → RC := runFn c__law_stream
def c__law_many_behind_right : FnC := ⟨1, 6, [false], sSeq (sAs 1 (e1 oTuple (e1 oSorSet (eLc [5] (.nm 5) (iA (eCall F__law_stream [] [.ev (eUse 0), .ev (e2 true oAdd (eC (.int 10)) (e2 true oMod (eVar 0) (eC (.int 31))))])) (eC (.bl true)) (e2 true oMod (eVar 5) (eC (.int 100))))))) (sSeq (sAs 2 (eTup [.ev (eC (.str "read")), .ev (eC (.int 7)), .ev (eC (.int 2)), .ev (eTup []), .ev (eC (.int 12)), .ev (eC (.int 3)), .ev (eC (.non)), .ev (eUse 1)])) (sSeq (sAs 3 (eCall F__law_text [] [.ev (eUse 2)])) (sSeq (sAs 4 (eC (.non))) (sSeq (sTry (sAs 4 (eCall F_read_line [] [.ev (eUse 3)]))) (sRt (eAnd (e2 true oNotN (eVar 4) (eC (.non))) (eAnd (eCall F__law_same [] [.ev (eUse 4), .ev (eUse 2)]) (e2 true (oEqD false) (eCall F_shown [] [.ev (eCall F__law_made [] [.ev (eUse 2), .ev (eUse 0)])]) (eVar 3)))))))))⟩
def F__law_many_behind_right : List RV → RC := runFn c__law_many_behind_right
def c__law_drawn : FnC := ⟨1, 10, [false], sSeq (sAs 1 (eCall F__law_stream [] [.ev (eUse 0), .ev (eC (.int 24))])) (sSeq (sAs 2 (e2 true oIdx (eLst [.ev (eC (.str "read")), .ev (eC (.str "write")), .ev (eC (.str "early")), .ev (eC (.str "rest")), .ev (eC (.str "read")), .ev (eC (.str "write"))]) (e2 true oMod (e2 true oIdx (eVar 1) (eC (.int 0))) (eC (.int 6))))) (sSeq (sAs 3 (e2 true oIdx (eLst [.ev (e2 true oMod (e2 true oIdx (eVar 1) (eC (.int 1))) (eC (.int 100))), .ev (e2 true oMod (eVar 0) (e2 true oAdd (e2 true oPow (eC (.int 10)) (eC (.int 12))) (eC (.int 1)))), .ev (e2 true oPow (eC (.int 10)) (eC (.int 12)))]) (e2 true oMod (e2 true oIdx (eVar 1) (eC (.int 2))) (eC (.int 3))))) (sSeq (sIf (e2 true (oEqD false) (eVar 2) (eC (.str "rest"))) (sRt (eTup [.ev (eUse 2), .ev (eC (.int 0)), .ev (eC (.int 0)), .ev (eTup []), .ev (eUse 3), .ev (eC (.int 0)), .ev (eC (.non)), .ev (eTup [])])) (sNil)) (sSeq (sAs 4 (e2 true oIdx (eLst [.ev (e2 true oMod (e2 true oIdx (eVar 1) (eC (.int 3))) (eC (.int 100))), .ev (e2 true oMod (e2 true oIdx (eVar 1) (eC (.int 3))) (e2 true oAdd (e2 true oPow (eC (.int 10)) (eC (.int 6))) (eC (.int 1)))), .ev (e2 true oPow (eC (.int 10)) (eC (.int 6)))]) (e2 true oMod (e2 true oIdx (eVar 1) (eC (.int 4))) (eC (.int 3))))) (sSeq (sAs 5 (e2 true oIdx (eLst [.ev (e2 true oAdd (eC (.int 1)) (e2 true oMod (e2 true oIdx (eVar 1) (eC (.int 5))) (eC (.int 3)))), .ev (e2 true oAdd (eC (.int 1)) (e2 true oMod (e2 true oIdx (eVar 1) (eC (.int 5))) (eC (.int 16)))), .ev (eC (.int 16))]) (e2 true oMod (e2 true oIdx (eVar 1) (eC (.int 6))) (eC (.int 3))))) (sSeq (sAs 6 (eTup [])) (sSeq (sIf (e2 true (oEqD true) (eVar 2) (eC (.str "read"))) (sAs 6 (e1 oTuple (eLc [9] (.nm 9) (iR1 (eVar 5)) (eC (.bl true)) (e2 true oMod (e2 true oAdd (e2 true oMul (e2 true oIdx (eVar 1) (eC (.int 7))) (e2 true oAdd (eVar 9) (eC (.int 1)))) (eVar 0)) (e2 true oIdx (eLst [.ev (eC (.int 10)), .ev (e2 true oAdd (e2 true oPow (eC (.int 10)) (eC (.int 9))) (eC (.int 1)))]) (e2 true oMod (e2 true oIdx (eVar 1) (eC (.int 8))) (eC (.int 2)))))))) (sNil)) (sSeq (sAs 7 (e2 true oIdx (eLst [.ev (eC (.non)), .ev (e2 true oMod (e2 true oIdx (eVar 1) (eC (.int 9))) (eC (.int 100))), .ev (e2 true oMod (e2 true oMul (e2 true oIdx (eVar 1) (eC (.int 9))) (eC (.int 48271))) (e2 true oAdd (e2 true oPow (eC (.int 10)) (eC (.int 13))) (eC (.int 1)))), .ev (e2 true oPow (eC (.int 10)) (eC (.int 13)))]) (e2 true oMod (e2 true oIdx (eVar 1) (eC (.int 10))) (eC (.int 4))))) (sSeq (sAs 8 (eLc [9] (.nm 9) (iR1 (e2 true oMul (e2 true oMod (e2 true oIdx (eVar 1) (eC (.int 11))) (eC (.int 4))) (e2 true oMod (e2 true oDiv (e2 true oIdx (eVar 1) (eC (.int 11))) (eC (.int 4))) (eC (.int 4))))) (eC (.bl true)) (e2 true oMod (e2 true oIdx (eVar 1) (e2 true oAdd (eC (.int 12)) (eVar 9))) (eC (.int 100))))) (sRt (eTup [.ev (eUse 2), .ev (eUse 4), .ev (eUse 5), .ev (eUse 6), .ev (eUse 3), .ev (e2 true oIdx (eLst [.ev (eC (.int 0)), .ev (eC (.int 0)), .ev (eC (.int 20)), .ev (e2 true oMod (e2 true oIdx (eVar 1) (eC (.int 22))) (eC (.int 21)))]) (e2 true oMod (e2 true oIdx (eVar 1) (eC (.int 23))) (eC (.int 4)))), .ev (eUse 7), .ev (e1 oTuple (e1 oSorSet (eVar 8)))])))))))))))⟩
def F__law_drawn : List RV → RC := runFn c__law_drawn
def c__law_cell_at : FnC := ⟨2, 2, [false, false], sSeq (sIf (e2 true (oB0 fun i j => decide (i < j)) (eVar 1) (e1 oLen (eVar 0))) (sRt (e2 true oIdx (eVar 0) (eVar 1))) (sNil)) (sRt (eC (.int 0)))⟩
def F__law_cell_at : List RV → RC := runFn c__law_cell_at
def c_law : FnC := ⟨1, 7, [false], sSeq (sIf (eNot (eCall F__law_many_behind_right [] [.ev (eCall F__law_cell_at [] [.ev (eUse 0), .ev (eC (.int 41))])])) (sRt (eC (.bl false))) (sNil)) (sSeq (sFor (.nm 1) (iA (e2 true oAdd (eCall F__law_stream [] [.ev (eCall F__law_cell_at [] [.ev (eUse 0), .ev (eC (.int 0))]), .ev (eC (.int 3))]) (eSlc (eVar 0) none (some (eC (.int 40)))))) (sSeq (sAs 2 (eCall F__law_drawn [] [.ev (eUse 1)])) (sSeq (sAs 3 (eCall F__law_text [] [.ev (eUse 2)])) (sSeq (sAs 4 (eCall F_shown [] [.ev (eCall F__law_made [] [.ev (eUse 2), .ev (eUse 1)])])) (sSeq (sIf (eOr (eNot (e1 (oIsi "str") (eVar 4))) (eOr (e2 true (oEqD true) (eVar 4) (eVar 3)) (eNot (eCall F__law_same [] [.ev (eCall F_read_line [] [.ev (eUse 3)]), .ev (eUse 2)])))) (sRt (eC (.bl false))) (sNil)) (sIf (eAnd (e2 true (oEqD true) (e2 true oIdx (eVar 2) (eC (.int 0))) (eC (.str "rest"))) (e2 true (oEqD false) (e2 true oIdx (eVar 2) (eC (.int 5))) (eC (.int 0)))) (sSeq (sAs 5 (eSt1 oSplit (eVar 3) (eC (.str " ")))) (sSeq (sAs 6 (e2 true oAdd (eIndex (eVar 5) (eC (.str "at"))) (eC (.int 2)))) (sIf (eNot (eCall F__law_same [] [.ev (eCall F_read_line [] [.ev (eSt1 oJoin (eC (.str " ")) (e2 true oAdd (e2 true oAdd (eSlc (eVar 5) none (some (eVar 6))) (eLst [.ev (eC (.str "for")), .ev (eC (.str "0"))])) (eSlc (eVar 5) (some (eVar 6)) none)))]), .ev (eUse 2)])) (sRt (eC (.bl false))) (sNil)))) (sNil))))))) (sRt (eC (.bl true))))⟩
def F_law : List RV → RC := runFn c_law
end Pd

end
end
section
namespace Pd
open PySem L2
def cellAt (ns : List Int) (k : Nat) : Int := ns.getD k 0
theorem F_cell_at (ns : List Int) (k : Nat) : F__law_cell_at [pureV (.frl (ns.map .int)), pureV (.int k)] = .ok (pureV (.int (cellAt ns k))) [none, none] := by
  unfold F__law_cell_at runFn c__law_cell_at
  simp [enter, atI_nat]
  by_cases h : k < ns.length
  · simp [h, cellAt]
  · simp [h, cellAt]
/-! the stream -/
def nextN (n : Int) (k : Int) : Int := (n * n + 48271 * n + k) % 2147483647
def strG : Nat → Nat → Int → List Int
  | 0, _, _ => []
  | c + 1, k, n => nextN n k :: strG c (k + 1) (nextN n k)
def stream (cell : Int) (many : Nat) : List Int := (strG (many + 1) 0 (cell % 2147483647 + 48271)).drop 1
theorem strG_len : ∀ c k n, (strG c k n).length = c
  | 0, _, _ => rfl
  | c + 1, k, n => by simp [strG, strG_len]
theorem stream_len (cell : Int) (many : Nat) : (stream cell many).length = many := by simp [stream, strG_len]
theorem nextN_ok (n k : Int) : 0 ≤ nextN n k ∧ nextN n k < 2147483647 := ⟨Int.emod_nonneg _ (by decide), Int.emod_lt_of_pos _ (by decide)⟩
theorem strG_ok : ∀ c k n, ∀ x ∈ strG c k n, 0 ≤ x ∧ x < 2147483647
  | 0, _, _, x, h => by simp [strG] at h
  | c + 1, k, n, x, h => by
    simp [strG] at h
    rcases h with h | h
    · rw [h]; exact nextN_ok _ _
    · exact strG_ok c _ _ x h
theorem stream_ok {cell : Int} {many : Nat} : ∀ x ∈ stream cell many, 0 ≤ x ∧ x < 2147483647 := fun x h => strG_ok _ _ _ x (List.mem_of_mem_drop h)
def rngI (lo : Int) (n : Nat) : List Int := (List.range n).map fun i : Nat => lo + (i : Int)
theorem strL (c : Nat) : ∀ (k : Nat) (n : Int) (acc : List Int) (x : Slot) (cell many : Int), (k : Int) + c < 100000 → 0 ≤ n → n < 4294967296 → acc.length = k →
    ∃ n' x', forL (.nm 4) (sSeq (sAs 3 (e2 true oMod (e2 true oAdd (e2 true oAdd (e2 true oMul (eVar 3) (eVar 3)) (e2 true oMul (eC (.int 48271)) (eVar 3))) (eVar 4)) (eC (.int 2147483647)))) (sApp true (lVar 2) (eUse 3)))
      ((List.range' k c).map fun (i : Nat) => D.int (i : Int)) [some (0, .int cell), some (0, .int many), some (1, .lst (acc.map .int)), some (0, .int n), x] =
    .nx [some (0, .int cell), some (0, .int many), some (1, .lst ((acc ++ strG c k n).map .int)), some (0, .int n'), x'] := by
  induction c with
  | zero => intro k n acc x cell many _ _ _ _; exact ⟨n, x, by simp [forL, strG]⟩
  | succ c ih =>
    intro k n acc x cell many h1 h2 h3 h4
    obtain ⟨n', x', e⟩ := ih (k + 1) (nextN n k) (acc ++ [nextN n k]) (some (0, .int k)) cell many (by omega) (nextN_ok n k).1 (by have := (nextN_ok n k).2; omega) (by simp [h4])
    refine ⟨n', x', ?_⟩
    rw [List.range'_succ, List.map_cons]
    unfold forL
    have hm : oMul ⟨0, false, .int n⟩ ⟨0, false, .int n⟩ = some (pureV (.int (n * n))) := oMul_l (by omega)
    have hm2 : oMul ⟨0, false, .int 48271⟩ ⟨0, false, .int n⟩ = some (pureV (.int (48271 * n))) := oMul_l (by omega)
    have hl : acc.length < BIG := Nat.lt_of_lt_of_le (show acc.length < 100000 by omega) (by decide)
    simp [hm, hm2, hl]
    simpa [strG, nextN] using e
theorem rb_nat {n : Nat} (h : n < 1000000) : RB (n : Int) := by unfold RB; omega
theorem F_stream (cell : Int) (many : Nat) (hm : many < 1000) : F__law_stream [pureV (.int cell), pureV (.int many)] = .ok ⟨1, false, .lst ((stream cell many).map .int)⟩ [none, none] := by
  unfold F__law_stream runFn c__law_stream
  obtain ⟨n', x', e⟩ := strL (many + 1) 0 (cell % 2147483647 + 48271) [] none cell many (by omega) (by have := Int.emod_nonneg cell (show (2147483647 : Int) ≠ 0 by decide); omega) (by have := Int.emod_lt_of_pos cell (show (0 : Int) < 2147483647 by decide); omega) rfl
  have hb : RB ((many : Int) + 1) := by unfold RB; omega
  simp only [List.map_nil, List.nil_append] at e
  simp [enter, eq_true hb, rng0, e, cutD_1, stream]
end Pd
end
section
namespace Pd
open PySem L2
section
variable {ρ : Vr} {fa fb : EF} {op : Str → RV → Option RV}
@[simp] theorem run_st1 : eSt1 op fa fb ρ = (fa ρ).bind fun x ρ1 => match x.d with
  | .str a => (fb ρ1).bind fun y ρ2 => opE (op a y) ρ2
  | _ => .stuck := nr rfl
@[simp] theorem run_iSt : iSt fa ρ = (fa ρ).bindI fun x ρ1 => match x.d with
  | .str z => .ok (z.cps.toList.map fun c => .str ⟨#[c]⟩) (pureV x.d) ρ1
  | _ => .stuck := nr rfl
@[simp] theorem run_index : eIndex fa fb ρ = (fa ρ).bind fun x ρ1 => match x.d with
  | .lst ds => (fb ρ1).bind fun y ρ2 => opE (oIndex ds y) ρ2
  | _ => .stuck := nr rfl
theorem run_lc {vs : List Nat} {t : Tg} {fi : IF} {ft fe : EF} : eLc vs t fi ft fe ρ = (fi ρ).bindE fun items _ ρ1 => compL vs t ft fe items [] (wipeV ρ1 vs) := nr rfl
end
section
variable {t : Tg} {f : SF} {d : D} {ds : List D} {ρ ρ1 ρ2 : Vr} {x : RV}
theorem forL_rt (b : bindT t d ρ = some ρ1) (e : f ρ1 = .rt x ρ2) : forL t f (d :: ds) ρ = .rt x ρ2 := by
  unfold forL; rw [b]; dsimp only; rw [e]
theorem forL_nx (b : bindT t d ρ = some ρ1) (e : f ρ1 = .nx ρ2) : forL t f (d :: ds) ρ = forL t f ds ρ2 := by
  conv => lhs; unfold forL
  rw [b]; dsimp only; rw [e]
theorem bind_st {ρ ρ' : Vr} {i : Nat} {d : D} (h : i < ρ.length) (e : ρ.set i (some (0, d)) = ρ') : bindT (.nm i) d ρ = some ρ' := by
  rw [bind_nm, if_pos h, e]
end
theorem eqv_str (neg : Bool) (q q' : Nat) (b b' : Bool) (x y : Str) (hx : PyData.strOk x = true) (hy : PyData.strOk y = true) : oEqD neg ⟨q, b, .str x⟩ ⟨q', b', .str y⟩ = some (pureV (.bl (decide (x = y) != neg))) := by
  unfold oEqD
  have s1 : ∀ z : Str, PyData.strOk z = true → SeqAt.shaped (.str z) = true := fun z hz => by simp [SeqAt.shaped, PyData.canLay0, PyData.depth, hz]
  simp only [pyd, Option.bind_some, s1 x hx, s1 y hy, and_self, if_true]
  congr 3
end Pd
end
section
namespace Pd
open PySem L2 TL
/-! numbers as words -/
abbrev numS (n : Int) : Str := (toString n : String)
theorem tl_numS {n : Int} (h : 0 ≤ n) : tl (numS n) = numL n.toNat := by
  obtain ⟨k, rfl⟩ := Int.eq_ofNat_of_zero_le h
  exact tl_num k
theorem numS_blank (n : Int) : 32 ∉ tl (numS n) := fun h => (PyProof.Rows.intText_free_32 n).mp h
theorem numS_ok {n : Int} (h : 0 ≤ n) : PyData.strOk (numS n) = true := by
  unfold PyData.strOk
  rw [← Array.all_toList, List.all_eq_true]
  intro c hc
  have : c ∈ tl (numS n) := hc
  rw [tl_numS h] at this
  have := numL_digits n.toNat c this
  simp; omega
theorem numS_ne {n : Int} (h : 0 ≤ n) {w : Str} {c : Nat} (hc : c ∈ tl w) (h2 : 57 < c) : numS n ≠ w := fun e => by
  rw [← e, tl_numS h] at hc
  exact numL_free (.inr h2) hc
theorem numS_len {n : Int} (h : 0 ≤ n) {k : Nat} (hk : 0 < k) (h2 : n < 10 ^ k) : (numS n).length ≤ k := PyProof.Rows.toString_length_le h hk h2
theorem numL_head : ∀ n : Nat, 1 ≤ n → ∃ c r, numL n = c :: r ∧ c ≠ 48 := fun n => by
  induction n using Nat.strongRecOn with
  | _ n ih =>
    intro h1
    by_cases h : n < 10
    · exact ⟨48 + n, [], numL_lt h, by omega⟩
    · obtain ⟨c, r, e, hc⟩ := ih (n / 10) (by omega) (by omega)
      exact ⟨c, r ++ [48 + n % 10], by rw [numL_step (by omega), e]; rfl, hc⟩
theorem len_tl' (x : Str) : x.length = (tl x).length := len_tl x
theorem figs : ∀ c : Nat, 48 ≤ c → c ≤ 57 → c ∈ tl ("0123456789" : Str) := by
  intro c h1 h2
  have : c = 48 ∨ c = 49 ∨ c = 50 ∨ c = 51 ∨ c = 52 ∨ c = 53 ∨ c = 54 ∨ c = 55 ∨ c = 56 ∨ c = 57 := by omega
  rcases this with h | h | h | h | h | h | h | h | h | h <;> subst h <;> decide +kernel
theorem signL (d0 : D) : ∀ (cs : List Nat) (x1 : Slot), (∀ c ∈ cs, 48 ≤ c ∧ c ≤ 57) → ∃ y1 : Slot, forL (.nm 1) (sIf (e2 true oNotSign (eVar 1) (eC (.str "0123456789"))) (sNever) (sNil)) (cs.map fun c => D.str ⟨#[c]⟩) [some (0, d0), x1] = .nx [some (0, d0), y1]
  | [], x1, _ => ⟨x1, by simp [forL]⟩
  | c :: cs, x1, h => by
    obtain ⟨y1, e⟩ := signL d0 cs (some (0, .str ⟨#[c]⟩)) fun x hx => h x (List.mem_cons_of_mem _ hx)
    refine ⟨y1, ?_⟩
    rw [List.map_cons]
    refine Eq.trans (forL_nx (ρ1 := [some (0, d0), some (0, .str ⟨#[c]⟩)]) (bind_st (by simp) rfl) (ρ2 := [some (0, d0), some (0, .str ⟨#[c]⟩)]) ?_) e
    have hc := h c List.mem_cons_self
    have hm : decide (c ∈ ("0123456789" : Str).cps.toList) = true := decide_eq_true (figs c hc.1 hc.2)
    have on : oNotSign ⟨0, false, .str ⟨#[c]⟩⟩ ⟨0, false, .str "0123456789"⟩ = some (pureV (.bl false)) := by
      show some (pureV (.bl (!decide (c ∈ ("0123456789" : Str).cps.toList)))) = _
      rw [hm]; rfl
    simp [on]
theorem number_in_k {n : Int} (h0 : 0 ≤ n) (h1 : n < 10 ^ 15) : F_number_in [pureV (.str (numS n))] = .ok (pureV (.int n)) [none] := by
  have hl := numS_len h0 (by decide) h1
  have hne : tl (numS n) ≠ [] := by rw [tl_numS h0]; exact numL_ne _
  have hp : 0 < (numS n).length := by rw [len_tl']; exact List.length_pos_iff.mpr hne
  have hb : (numS n).length ≤ BIG := Nat.le_trans hl (by decide)
  have ol : oLen ⟨0, false, .str (numS n)⟩ = some (pureV (.int ((numS n).length : Int))) := by simp only [oLen]; rw [if_pos hb]
  have l0 : (((numS n).length : Int) == 0) = false := beq_eq_false_iff_ne.mpr (by omega)
  have l15 : ¬ (15 : Int) < ((numS n).length : Int) := by omega
  have hd : ∀ c ∈ (numS n).cps.toList, 48 ≤ c ∧ c ≤ 57 := fun c hc => by
    have : c ∈ tl (numS n) := hc
    rw [tl_numS h0] at this
    have := numL_digits n.toNat c this
    omega
  obtain ⟨y1, es⟩ := signL (.str (numS n)) (numS n).cps.toList none hd
  have hi : PySem.intText? (numS n) = some n := by
    obtain ⟨k, rfl⟩ := Int.eq_ofNat_of_zero_le h0
    refine int_num ?_
    have := numL_len (n := k) (k := 15) (by decide) (by omega)
    omega
  have oi : oIntS ⟨0, false, .str (numS n)⟩ = some (pureV (.int n)) := by
    simp only [oIntS]
    rw [if_pos (by omega), hi]; rfl
  -- the first sign
  obtain ⟨c, r, ec⟩ : ∃ c r, (numS n).cps.toList = c :: r := by
    cases e : (numS n).cps.toList with
    | nil => exact absurd e hne
    | cons c r => exact ⟨c, r, rfl⟩
  have ox : oIdx ⟨0, false, .str (numS n)⟩ ⟨0, false, .int 0⟩ = some (pureV (.str ⟨#[c]⟩)) := by
    simp only [oIdx]
    rw [if_pos hb, ec, show (0 : Int) = ((0 : Nat) : Int) by rfl, atI_nat]; rfl
  have hc := hd c (by rw [ec]; exact List.mem_cons_self)
  have sc : PyData.strOk ⟨#[c]⟩ = true := by simp [PyData.strOk]; omega
  have oe : oEqD false ⟨0, false, .str ⟨#[c]⟩⟩ ⟨0, false, .str "0"⟩ = some (pureV (.bl (decide ((⟨#[c]⟩ : Str) = "0")))) := by
    rw [eqv_str _ _ _ _ _ _ _ sc (by decide +kernel)]; simp
  have key : ((decide ((⟨#[c]⟩ : Str) = "0")) && decide ((1 : Int) < ((numS n).length : Int))) = false := by
    by_cases hn : n = 0
    · subst hn
      have : (numS 0).length = 1 := by decide +kernel
      rw [this]; simp
    · have : 1 ≤ n.toNat := by omega
      obtain ⟨c', r', e', hc'⟩ := numL_head n.toNat this
      have : tl (numS n) = c :: r := ec
      rw [tl_numS h0, e'] at this
      cases this
      have : ¬ (⟨#[c]⟩ : Str) = "0" := fun e => hc' (by
        have : tl (⟨#[c]⟩ : Str) = tl "0" := by rw [e]
        have e0 : tl ("0" : Str) = [48] := by decide +kernel
        rw [e0] at this
        exact (List.cons.inj this).1)
      simp [this]
  unfold F_number_in runFn c_number_in
  generalize numS n = w at *
  cases k1 : decide ((⟨#[c]⟩ : Str) = "0") with
  | false =>
    rw [k1] at oe
    simp [enter, ol, l0, l15, es, ox, oe, oi]
  | true =>
    rw [k1] at oe key
    have k2 : ¬ (1 : Int) < (w.length : Int) := by simpa using key
    simp [enter, ol, l0, l15, es, ox, oe, oi, k2]
end Pd
end
section
namespace Pd
open PySem L2 TL
theorem whN_f {fc : EF} {f : SF} {n : Nat} {ρ ρ1 : Vr} {q : Nat} {b : Bool} (h : fc ρ = .ok ⟨q, b, .bl false⟩ ρ1) : whN fc f (n + 1) ρ = .nx ρ1 := by
  unfold whN; rw [h]; rfl
theorem whN_t {fc : EF} {f : SF} {n : Nat} {ρ ρ1 ρ2 : Vr} {q : Nat} {b : Bool} (h : fc ρ = .ok ⟨q, b, .bl true⟩ ρ1) (e : f ρ1 = .nx ρ2) : whN fc f (n + 1) ρ = whN fc f n ρ2 := by
  conv => lhs; unfold whN
  rw [h]; dsimp only [RE.bindS]; rw [e]
theorem sWh_nx {fc : EF} {f : SF} {n : Nat} {ρ ρ' : Vr} (h : whN fc f n ρ = .nx ρ') : sWh fc f ρ = .nx ρ' := by
  rw [sWh_of n (by rw [h]; rfl), h]
abbrev WD (ws : List Str) : D := .lst (ws.map .str)
theorem big1000 {n : Nat} (h : n < 1000) : n < BIG := Nat.lt_of_lt_of_le (show n < 100000 by omega) (by decide)
theorem atS {pre T : List Str} {w : Str} : atI ((pre ++ w :: T).map D.str) (pre.length : Int) = some (.str w) := by
  rw [atI_nat]; simp
theorem pStr {q : Nat} {b : Bool} {d : D} {w : Str} : part ⟨q, b, d⟩ (.str w) = some (pureV (.str w)) := by unfold part; rw [if_pos (.inr rfl)]
theorem tillL (stop : Str) (hs : PyData.strOk stop = true) (hf : ∀ n : Int, 0 ≤ n → numS n ≠ stop) : ∀ (nums : List Int) (pre T : List Str) (acc : List Int), (∀ n ∈ nums, 0 ≤ n ∧ n < 10 ^ 15) → (T = [] ∨ ∃ T', T = stop :: T') → (pre ++ nums.map numS ++ T).length < 1000 → acc.length + nums.length < 1000 →
    whN (eAnd (e2 true (oB0 fun i j => decide (i < j)) (eVar 1) (e1 oLen (eVar 0))) (e2 true (oEqD true) (e2 true oIdx (eVar 0) (eVar 1)) (eVar 2))) (sSeq (sApp false (lVar 3) (eCall F_number_in [] [.ev (e2 true oIdx (eVar 0) (eVar 1))])) (sAs 1 (e2 true oAdd (eVar 1) (eC (.int 1))))) (nums.length + 1)
      [some (0, WD (pre ++ nums.map numS ++ T)), some (0, .int (pre.length : Int)), some (0, .str stop), some (1, .lst (acc.map .int))] =
      .nx [some (0, WD (pre ++ nums.map numS ++ T)), some (0, .int ((pre.length + nums.length : Nat) : Int)), some (0, .str stop), some (1, .lst ((acc ++ nums).map .int))]
  | [], pre, T, acc, hn, hT, hl, ha => by
    refine whN_f (q := 0) (b := false) ?_
    rcases hT with rfl | ⟨T', rfl⟩
    · simp
    · have a0 := atS (pre := pre) (T := T') (w := stop)
      have lt : (pre.length : Int) < ((pre ++ stop :: T').map D.str).length := by simp; omega
      have oe : oEqD true ⟨0, false, .str stop⟩ ⟨0, false, .str stop⟩ = some (pureV (.bl false)) := by rw [eqv_str _ _ _ _ _ _ _ hs hs]; simp
      simp only [List.map_nil, List.append_nil]
      unfold WD
      generalize (pre ++ stop :: T').map D.str = L at *
      simp [lt, a0, pStr, oe]
  | n :: nums, pre, T, acc, hn, hT, hl, ha => by
    obtain ⟨n0, n1⟩ := hn n List.mem_cons_self
    have ih := tillL stop hs hf nums (pre ++ [numS n]) T (acc ++ [n]) (fun x hx => hn x (List.mem_cons_of_mem _ hx)) hT (by simpa using hl) (by simp at ha ⊢; omega)
    have ew : pre ++ [numS n] ++ nums.map numS ++ T = pre ++ (n :: nums).map numS ++ T := by simp
    rw [ew] at ih
    have a0 : atI ((pre ++ (n :: nums).map numS ++ T).map D.str) (pre.length : Int) = some (.str (numS n)) := by
      have := atS (pre := pre) (T := nums.map numS ++ T) (w := numS n)
      simpa using this
    have lt : (pre.length : Int) < ((pre ++ (n :: nums).map numS ++ T).map D.str).length := by simp; omega
    have oe : oEqD true ⟨0, false, .str (numS n)⟩ ⟨0, false, .str stop⟩ = some (pureV (.bl true)) := by
      rw [eqv_str _ _ _ _ _ _ _ (numS_ok n0) hs]; simp [hf n n0]
    have nk := number_in_k n0 n1
    have lb : (acc.map D.int).length < BIG := big1000 (by simp at ha ⊢; omega)
    unfold WD at ih ⊢
    generalize (pre ++ (n :: nums).map numS ++ T).map D.str = L at *
    have e1 : ((pre ++ [numS n]).length : Int) = (pre.length : Int) + 1 := by simp
    have e2 : (acc ++ [n]).map D.int = acc.map D.int ++ [D.int n] := by simp
    rw [e1, e2] at ih
    rw [List.length_cons, whN_t (q := 0) (b := false) (ρ1 := [some (0, .lst L), some (0, .int (pre.length : Int)), some (0, .str stop), some (1, .lst (acc.map .int))]) (ρ2 := [some (0, .lst L), some (0, .int ((pre.length : Int) + 1)), some (0, .str stop), some (1, .lst (acc.map .int ++ [.int n]))])]
    · rw [ih]
      congr 6
      · simp; omega
      · simp
    · simp [lt, a0, pStr, oe]
    · generalize acc.map D.int = A at *
      simp [a0, pStr, nk, lb]
theorem till_k (stop : Str) (hs : PyData.strOk stop = true) (hf : ∀ n : Int, 0 ≤ n → numS n ≠ stop) {nums : List Int} {pre T : List Str} (hn : ∀ n ∈ nums, 0 ≤ n ∧ n < 10 ^ 15) (hT : T = [] ∨ ∃ T', T = stop :: T') (hl : (pre ++ nums.map numS ++ T).length < 1000) :
    F_numbers_till [pureV (WD (pre ++ nums.map numS ++ T)), pureV (.int (pre.length : Int)), pureV (.str stop)] = .ok (pureV (.tup [.lst (nums.map .int), .int ((pre.length + nums.length : Nat) : Int)])) [none, none, none] := by
  have e := sWh_nx (tillL stop hs hf nums pre T [] hn hT hl (by simp at hl ⊢; omega))
  simp only [List.map_nil, List.nil_append] at e
  unfold F_numbers_till runFn c_numbers_till
  simp only [enter]
  unfold WD at e ⊢
  generalize (pre ++ nums.map numS ++ T).map D.str = L at *
  simp [e]
theorem after_yes (word : Str) (hw : PyData.strOk word = true) {pre T : List Str} {n : Int} (h0 : 0 ≤ n) (h1 : n < 10 ^ 15) (other : D) :
    F_after_word [pureV (WD (pre ++ word :: numS n :: T)), pureV (.int (pre.length : Int)), pureV (.str word), pureV other] = .ok (pureV (.tup [.int n, .int ((pre.length : Int) + 2)])) [none, none, none, none] := by
  have a0 := atS (pre := pre) (T := numS n :: T) (w := word)
  have a1 : atI ((pre ++ word :: numS n :: T).map D.str) ((pre.length : Int) + 1) = some (.str (numS n)) := by
    have := atS (pre := pre ++ [word]) (T := T) (w := numS n)
    simpa using this
  have lt : (pre.length : Int) < ((pre ++ word :: numS n :: T).map D.str).length := by simp; omega
  have ne : ((pre.length : Int) + 1 == ((pre ++ word :: numS n :: T).map D.str).length) = false := beq_eq_false_iff_ne.mpr (by simp; omega)
  have oe : oEqD false ⟨0, false, .str word⟩ ⟨0, false, .str word⟩ = some (pureV (.bl true)) := by rw [eqv_str _ _ _ _ _ _ _ hw hw]; simp
  have nk := number_in_k h0 h1
  unfold F_after_word runFn c_after_word WD
  generalize (pre ++ word :: numS n :: T).map D.str = L at *
  simp [enter, lt, a0, pStr, oe, ne, a1, nk]
theorem after_no (word : Str) (hw : PyData.strOk word = true) {pre T : List Str} (hT : T = [] ∨ ∃ u T', T = u :: T' ∧ u ≠ word ∧ PyData.strOk u = true) (other : D) :
    F_after_word [pureV (WD (pre ++ T)), pureV (.int (pre.length : Int)), pureV (.str word), pureV other] = .ok (pureV (.tup [other, .int (pre.length : Int)])) [none, none, none, none] := by
  rcases hT with rfl | ⟨u, T', rfl, hu, hk⟩
  · have nlt : ¬ (pre.length : Int) < ((pre ++ []).map D.str).length := by simp
    unfold F_after_word runFn c_after_word WD
    generalize (pre ++ []).map D.str = L at *
    simp [enter, nlt]
  · have a0 := atS (pre := pre) (T := T') (w := u)
    have lt : (pre.length : Int) < ((pre ++ u :: T').map D.str).length := by simp; omega
    have oe : oEqD false ⟨0, false, .str u⟩ ⟨0, false, .str word⟩ = some (pureV (.bl false)) := by rw [eqv_str _ _ _ _ _ _ _ hk hw]; simp [hu]
    unfold F_after_word runFn c_after_word WD
    generalize (pre ++ u :: T').map D.str = L at *
    simp [enter, lt, a0, pStr, oe]
end Pd
end
section
namespace Pd
open PySem L2 TL
structure One where
  kind : Str
  first : Int
  many : Int
  marks : List Int
  at_ : Int
  asker : Int
  latest : Option Int
  behind : List Int
def latD : Option Int → D
  | none => .non
  | some n => .int n
def One.d (o : One) : D := .tup [.str o.kind, .int o.first, .int o.many, .tup (o.marks.map .int), .int o.at_, .int o.asker, latD o.latest, .tup (o.behind.map .int)]
structure OneOk (o : One) : Prop where
  kd : o.kind = "read" ∨ o.kind = "write" ∨ o.kind = "early" ∨ o.kind = "rest"
  rs : o.kind = "rest" → o.first = 0 ∧ o.many = 0 ∧ o.marks = [] ∧ o.asker = 0 ∧ o.latest = none ∧ o.behind = []
  fi : 0 ≤ o.first ∧ o.first ≤ 1000000
  my : o.kind ≠ "rest" → 1 ≤ o.many ∧ o.many ≤ 16
  rd : o.kind = "read" → o.marks = []
  wr : o.kind = "write" ∨ o.kind = "early" → (o.marks.length : Int) = o.many
  mr : ∀ n ∈ o.marks, 0 ≤ n ∧ n ≤ 1000000000
  ml : o.marks.length ≤ 16
  at0 : 0 ≤ o.at_ ∧ o.at_ ≤ 1000000000000
  as0 : 0 ≤ o.asker ∧ o.asker ≤ 20
  la : ∀ n, o.latest = some n → 0 ≤ n ∧ n ≤ 10000000000000
  be : o.behind.Pairwise (· < ·)
  bb : ∀ n ∈ o.behind, 0 ≤ n ∧ n ≤ 99
  bl : o.behind.length ≤ 100
def optW (w : Str) (o : Option Int) : List Str := match o with
  | none => []
  | some n => [w, numS n]
def optV (other : D) : Option Int → D
  | none => other
  | some n => .int n
def behW (ns : List Int) : List Str := if ns = [] then [] else "behind" :: ns.map numS
def headW (o : One) : List Str := [o.kind] ++ (if o.kind = "rest" then [] else [numS o.first]) ++ (if o.kind = "read" then [numS o.many] else []) ++ o.marks.map numS
def tailW (o : One) (f : Option Int) : List Str := "at" :: numS o.at_ :: (optW "for" f ++ (optW "by" o.latest ++ behW o.behind))
def askO (o : One) : Option Int := if o.asker = 0 then none else some o.asker
def wordsW (o : One) : List Str := headW o ++ tailW o (askO o)
theorem opt_k (w : Str) (hw : PyData.strOk w = true) (o : Option Int) (ho : ∀ n, o = some n → 0 ≤ n ∧ n < 10 ^ 15) (other : D) (pre T : List Str) (hT : T = [] ∨ ∃ u T', T = u :: T' ∧ u ≠ w ∧ PyData.strOk u = true) :
    ∃ pre', pre ++ (optW w o ++ T) = pre' ++ T ∧ F_after_word [pureV (WD (pre ++ (optW w o ++ T))), pureV (.int (pre.length : Int)), pureV (.str w), pureV other] = .ok (pureV (.tup [optV other o, .int (pre'.length : Int)])) [none, none, none, none] := by
  cases o with
  | none => exact ⟨pre, rfl, after_no w hw hT other⟩
  | some n =>
    obtain ⟨h0, h1⟩ := ho n rfl
    refine ⟨pre ++ [w, numS n], by simp [optW], ?_⟩
    have := after_yes w hw (pre := pre) (T := T) h0 h1 other
    have el : ((pre ++ [w, numS n]).length : Int) = (pre.length : Int) + 2 := by simp
    rw [el]
    exact this
theorem by_head (l : Option Int) (ns : List Int) : optW "by" l ++ behW ns = [] ∨ ∃ u T', optW "by" l ++ behW ns = u :: T' ∧ u ≠ "for" ∧ PyData.strOk u = true := by
  cases l with
  | some n => exact .inr ⟨"by", _, rfl, by decide +kernel, by decide +kernel⟩
  | none =>
    unfold behW
    by_cases h : ns = []
    · rw [if_pos h]; exact .inl rfl
    · rw [if_neg h]; exact .inr ⟨"behind", _, rfl, by decide +kernel, by decide +kernel⟩
theorem beh_head (ns : List Int) : behW ns = [] ∨ ∃ u T', behW ns = u :: T' ∧ u ≠ "by" ∧ PyData.strOk u = true := by
  unfold behW
  by_cases h : ns = []
  · rw [if_pos h]; exact .inl rfl
  · rw [if_neg h]; exact .inr ⟨"behind", _, rfl, by decide +kernel, by decide +kernel⟩
theorem numS_word {n : Int} (h : 0 ≤ n) : numS n ≠ "at" ∧ numS n ≠ "behind" ∧ numS n ≠ "for" ∧ numS n ≠ "by" :=
  ⟨numS_ne h (c := 97) (by decide +kernel) (by decide), numS_ne h (c := 98) (by decide +kernel) (by decide), numS_ne h (c := 102) (by decide +kernel) (by decide), numS_ne h (c := 98) (by decide +kernel) (by decide)⟩
theorem read_tail_k {o : One} (h : OneOk o) (f : Option Int) (hf : f = some o.asker ∨ (f = none ∧ o.asker = 0)) (pre : List Str) (hl : (pre ++ tailW o f).length < 1000) :
    F_read_tail [pureV (WD (pre ++ tailW o f)), pureV (.int (pre.length : Int))] = .ok (pureV (.tup [.int o.at_, .int o.asker, latD o.latest, .lst (o.behind.map .int)])) [none, none] := by
  have s0 := after_yes "at" (by decide +kernel) (pre := pre) (T := optW "for" f ++ (optW "by" o.latest ++ behW o.behind)) h.at0.1 (by have := h.at0.2; omega) .non
  obtain ⟨p1, w1, s1⟩ := opt_k "for" (by decide +kernel) f (fun n e => by
    rcases hf with hf | ⟨hf, _⟩
    · rw [hf] at e; cases e; have := h.as0; omega
    · rw [hf] at e; cases e) (.int 0) (pre ++ [("at" : Str), numS o.at_]) (optW "by" o.latest ++ behW o.behind) (by_head _ _)
  obtain ⟨p2, w2, s2⟩ := opt_k "by" (by decide +kernel) o.latest (fun n e => by have := h.la n e; omega) .non p1 (behW o.behind) (beh_head _)
  have ew : pre ++ tailW o f = (pre ++ [("at" : Str), numS o.at_]) ++ (optW "for" f ++ (optW "by" o.latest ++ behW o.behind)) := by simp [tailW]
  have ew2 : pre ++ tailW o f = p2 ++ behW o.behind := by rw [ew, w1, w2]
  have s0' : F_after_word [pureV (WD (pre ++ tailW o f)), pureV (.int (pre.length : Int)), pureV (.str "at"), pureV .non] = _ := s0
  have e2 : ((pre ++ [("at" : Str), numS o.at_]).length : Int) = (pre.length : Int) + 2 := by simp
  rw [← ew, e2] at s1
  rw [← w1, ← ew] at s2
  have v1 : optV (.int 0) f = .int o.asker := by
    rcases hf with hf | ⟨hf, h0⟩
    · rw [hf]; rfl
    · rw [hf, h0]; rfl
  rw [v1] at s1
  have v2 : optV .non o.latest = latD o.latest := by cases o.latest <;> rfl
  rw [v2] at s2
  have lt0 : ¬ (((pre ++ tailW o f).map D.str).length : Int) ≤ (pre.length : Int) := by simp [tailW]; omega
  have il : immut (latD o.latest) = true := by cases o.latest <;> rfl
  by_cases hb : o.behind = []
  · have eb : behW o.behind = [] := by unfold behW; rw [if_pos hb]
    rw [eb, List.append_nil] at ew2
    have lt : ¬ (p2.length : Int) < (((pre ++ tailW o f).map D.str).length : Int) := by rw [ew2]; simp
    rw [hb]
    unfold F_read_tail runFn c_read_tail
    unfold WD at *
    generalize (pre ++ tailW o f).map D.str = L at *
    simp [enter, lt0, s0', s1, s2, lt]
  · have eb : behW o.behind = ("behind" : Str) :: o.behind.map numS := by unfold behW; rw [if_neg hb]
    rw [eb] at ew2
    have bp : 0 < o.behind.length := List.length_pos_iff.mpr hb
    have lt : (p2.length : Int) < (((pre ++ tailW o f).map D.str).length : Int) := by rw [ew2]; simp; omega
    have a0 : atI ((pre ++ tailW o f).map D.str) (p2.length : Int) = some (.str "behind") := by rw [ew2]; exact atS
    have oe : oEqD true ⟨0, false, .str "behind"⟩ ⟨0, false, .str "behind"⟩ = some (pureV (.bl false)) := by rw [eqv_str _ _ _ _ _ _ _ (by decide +kernel) (by decide +kernel)]; simp
    have ne : ((p2.length : Int) + 1 == (((pre ++ tailW o f).map D.str).length : Int)) = false := beq_eq_false_iff_ne.mpr (by rw [ew2]; simp; omega)
    have tk := till_k "behind" (by decide +kernel) (fun n hn => (numS_word hn).2.1) (nums := o.behind) (pre := p2 ++ [("behind" : Str)]) (T := []) (fun n hn => by have := h.bb n hn; omega) (.inl rfl) (by
      have : p2 ++ [("behind" : Str)] ++ o.behind.map numS ++ [] = pre ++ tailW o f := by rw [ew2]; simp
      rw [this]; exact hl)
    have e3 : p2 ++ [("behind" : Str)] ++ o.behind.map numS ++ [] = pre ++ tailW o f := by rw [ew2]; simp
    have e4 : ((p2 ++ [("behind" : Str)]).length : Int) = (p2.length : Int) + 1 := by simp
    rw [e3, e4] at tk
    have lb : ¬ ((o.behind.map D.int).length : Int) < (((pre ++ tailW o f).map D.str).length : Int) - (p2.length : Int) - 1 := by rw [ew2]; simp; omega
    have x0 : ∀ A B : D, atI [A, B] 0 = some A := fun _ _ => rfl
    unfold F_read_tail runFn c_read_tail
    unfold WD at *
    generalize (pre ++ tailW o f).map D.str = L at *
    generalize o.behind.map D.int = B at *
    simp [enter, lt0, s0', s1, s2, lt, a0, pStr, oe, ne, tk, x0, lb]
end Pd
end
section
namespace Pd
open PySem L2
/-! asks -/
def askD (kind : Str) (first many : Int) (marks : D) (at_ asker : Int) (latest : D) (behind : D) (early : Bool) : D :=
  .ins .n_Ask [.n_kind, .n_first, .n_many, .n_marks, .n_at, .n_asker, .n_latest, .n_behind, .n_early] [.str kind, .int first, .int many, marks, .int at_, .int asker, latest, behind, .bl early]
section
variable {kind : Str} {first many at_ asker : Int} {marks latest behind : D} {early : Bool} {m : Nat} {b : Bool}
theorem fa_first : oFld ft .n_first ⟨m, b, askD kind first many marks at_ asker latest behind early⟩ = some (pureV (.int first)) := by
  have e1 : Nm.n_first ∈ ft .n_Ask := by decide
  simp [askD, oFld, lookN, e1]
theorem fa_many : oFld ft .n_many ⟨m, b, askD kind first many marks at_ asker latest behind early⟩ = some (pureV (.int many)) := by
  have e1 : Nm.n_many ∈ ft .n_Ask := by decide
  simp [askD, oFld, lookN, e1]
theorem fa_at : oFld ft .n_at ⟨m, b, askD kind first many marks at_ asker latest behind early⟩ = some (pureV (.int at_)) := by
  have e1 : Nm.n_at ∈ ft .n_Ask := by decide
  simp [askD, oFld, lookN, e1]
theorem imm_ask : immut (askD kind first many marks at_ asker latest behind early) = false := rfl
end
section
@[simp] theorem ma1 : Nm.n_kind ∈ ft .n_Ask := by decide
@[simp] theorem ma2 : Nm.n_first ∈ ft .n_Ask := by decide
@[simp] theorem ma3 : Nm.n_many ∈ ft .n_Ask := by decide
@[simp] theorem ma4 : Nm.n_marks ∈ ft .n_Ask := by decide
@[simp] theorem ma5 : Nm.n_at ∈ ft .n_Ask := by decide
@[simp] theorem ma6 : Nm.n_asker ∈ ft .n_Ask := by decide
@[simp] theorem ma7 : Nm.n_latest ∈ ft .n_Ask := by decide
@[simp] theorem ma8 : Nm.n_behind ∈ ft .n_Ask := by decide
@[simp] theorem ma9 : Nm.n_early ∈ ft .n_Ask := by decide
variable {kind : Str} {first many at_ asker : Int} {marks latest behind : D} {early : Bool} {m : Nat} {b : Bool}
theorem ask_init_k (hm : immut marks = true) : F_AskUU_initUU [⟨1, false, .ins .n_Ask [] []⟩, pureV (.str kind), pureV (.int first), pureV (.int many), pureV marks, pureV (.int at_)] = .ok (pureV .non) [some (1, askD kind first many marks at_ 0 .non (.tup []) false), none, none, none, none, none] := by
  unfold F_AskUU_initUU runFn c_AskUU_initUU
  simp [enter, putNs, putDs, askD]
theorem check_k {n most : Int} (h1 : 0 ≤ n) (h2 : n ≤ most) : F_check [pureV (.int n), pureV (.int most)] = .ok (pureV .non) [none, none] := by
  unfold F_check runFn c_check
  simp [enter, h1, h2, bLe]
def Rise : Int → List Int → Prop
  | _, [] => True
  | l, b :: bs => l < b ∧ 0 ≤ b ∧ b ≤ 99 ∧ Rise b bs
theorem restL (dA d1 d2 d3 : D) (q : Nat) : ∀ (bs : List Int) (last : Int) (x5 : Slot), Rise last bs → ∃ y4 y5, forL (.nm 5) (sSeq (sEx (eCall F_check [] [.ev (eUse 5), .ev (eC (.int 99))])) (sSeq (sIf (e2 true (oB0 fun i j => decide (i ≤ j)) (eVar 5) (eVar 4)) (sNever) (sNil)) (sAs 4 (eUse 5)))) (bs.map .int) [some (q, dA), some (0, d1), some (0, d2), some (0, d3), some (0, .int last), x5] = .nx [some (q, dA), some (0, d1), some (0, d2), some (0, d3), y4, y5]
  | [], last, x5, _ => ⟨_, x5, rfl⟩
  | c :: bs, last, x5, ⟨h1, h2, h3, h4⟩ => by
    obtain ⟨y4, y5, e⟩ := restL dA d1 d2 d3 q bs c (some (0, .int c)) h4
    refine ⟨y4, y5, ?_⟩
    rw [List.map_cons]
    unfold forL
    have hn : ¬ (c ≤ last) := by omega
    simp [check_k h2 h3, hn]
    exact e
def LateOk (d : D) : Prop := d = .non ∨ ∃ i : Int, d = .int i ∧ 0 ≤ i ∧ i ≤ 10000000000000
/-- a list or a tuple -/
def SqD (d : D) (ds : List D) : Prop := d = .lst ds ∨ d = .tup ds
theorem rise_of : ∀ {bs : List Int} {l : Int}, bs.Pairwise (· < ·) → (∀ n ∈ bs, l < n ∧ 0 ≤ n ∧ n ≤ 99) → Rise l bs
  | [], _, _, _ => trivial
  | b :: bs, l, h, hb => by
    obtain ⟨h1, h2⟩ := List.pairwise_cons.mp h
    have := hb b List.mem_cons_self
    exact ⟨this.1, this.2.1, this.2.2, rise_of h2 fun n hn => ⟨h1 n hn, (hb n (List.mem_cons_of_mem _ hn)).2⟩⟩
theorem with_rest_k {bs : List Int} {bD : D} (hB : SqD bD (bs.map .int)) (hm : immut marks = true) (h1 : 0 ≤ first ∧ first ≤ 1000000) (h2 : 1 ≤ many ∧ many ≤ 16) (h3 : 0 ≤ at_ ∧ at_ ≤ 1000000000000) (h4 : 0 ≤ asker ∧ asker ≤ 20) (h5 : LateOk latest) (h6 : Rise (-1) bs) :
    F_with_rest [⟨1, false, askD kind first many marks at_ 0 .non (.tup []) false⟩, pureV (.int asker), pureV latest, pureV bD] = .ok ⟨1, false, askD kind first many marks at_ asker latest (.tup (bs.map .int)) false⟩ [none, none, none, none] := by
  obtain ⟨y4, y5, e⟩ := restL (askD kind first many marks at_ 0 .non (.tup []) false) (.int asker) latest bD 1 bs (-1) none h6
  have p6 : oPow ⟨0, false, .int 10⟩ ⟨0, false, .int 6⟩ = some (pureV (.int 1000000)) := by rw [oPow_i (by decide)]; rfl
  have p12 : oPow ⟨0, false, .int 10⟩ ⟨0, false, .int 12⟩ = some (pureV (.int 1000000000000)) := by rw [oPow_i (by decide)]; rfl
  have p13 : oPow ⟨0, false, .int 10⟩ ⟨0, false, .int 13⟩ = some (pureV (.int 10000000000000)) := by rw [oPow_i (by decide)]; rfl
  have k1 := check_k h1.1 h1.2
  have k2 : F_check [pureV (.int (many - 1)), pureV (.int 15)] = _ := check_k (by omega) (by omega)
  have k3 := check_k h3.1 h3.2
  have k4 := check_k h4.1 h4.2
  have nb : oIsN ⟨0, false, bD⟩ ⟨0, false, .non⟩ = some (pureV (.bl false)) := by rcases hB with rfl | rfl <;> rfl
  have nb2 : ∀ b, oIsN ⟨0, b, bD⟩ ⟨0, false, .non⟩ = some (pureV (.bl false)) := fun b => by rcases hB with rfl | rfl <;> rfl
  have tb : ∀ b, oTuple ⟨0, b, bD⟩ = some (pureV (.tup (bs.map .int))) := fun b => by rcases hB with rfl | rfl <;> simp
  have ib : ∀ ρ : Vr, ρ[3]? = some (some (0, bD)) → iA (eUse 3) ρ = .ok (bs.map .int) (pureV bD) ρ := fun ρ h => by
    have hs : ρ.set 3 (some (0, bD)) = ρ := by
      apply List.ext_getElem?
      intro i
      by_cases hi : 3 = i
      · subst hi; rw [h, List.getElem?_set_self (List.getElem?_eq_some_iff.mp h).1]
      · rw [List.getElem?_set_ne hi]
    rcases hB with rfl | rfl <;> simp [h, hs]
  have ib2 : iA (eUse 3) [some (1, askD kind first many marks at_ 0 .non (.tup []) false), some (0, .int asker), some (0, latest), some (0, bD), some (0, .int (-1)), none] = .ok (bs.map .int) (pureV bD) [some (1, askD kind first many marks at_ 0 .non (.tup []) false), some (0, .int asker), some (0, latest), some (0, bD), some (0, .int (-1)), none] := ib _ rfl
  unfold F_with_rest runFn c_with_rest
  rcases h5 with rfl | ⟨i, rfl, h7, h8⟩
  · simp [-run_iA, enter, imm_ask, fa_first, fa_many, fa_at, p6, p12, p13, k1, k2, k3, k4, nb, nb2, ib2]
    simp [e]
    simp [askD, putNs, putDs, tb]
  · have k5 := check_k h7 h8
    simp [-run_iA, enter, imm_ask, fa_first, fa_many, fa_at, p6, p12, p13, k1, k2, k3, k4, k5, nb, nb2, ib2]
    simp [e]
    simp [askD, putNs, putDs, tb]
theorem reading_k {bs : List Int} {bD : D} (hB : SqD bD (bs.map .int)) (h1 : 0 ≤ first ∧ first ≤ 1000000) (h2 : 1 ≤ many ∧ many ≤ 16) (h3 : 0 ≤ at_ ∧ at_ ≤ 1000000000000) (h4 : 0 ≤ asker ∧ asker ≤ 20) (h5 : LateOk latest) (h6 : Rise (-1) bs) :
    F_reading [pureV (.int first), pureV (.int many), pureV (.int at_), pureV (.int asker), pureV latest, pureV bD] = .ok ⟨1, false, askD "read" first many (.tup []) at_ asker latest (.tup (bs.map .int)) false⟩ [none, none, none, none, none, none] := by
  have k := with_rest_k (kind := "read") (marks := .tup []) (asker := asker) hB rfl h1 h2 h3 h4 h5 h6
  have k0 := ask_init_k (kind := "read") (first := first) (many := many) (at_ := at_) (marks := .tup []) rfl
  unfold F_reading runFn c_reading
  simp [enter, k0, k]
theorem marksL (d0 d1 d2 d3 d4 d5 d6 : D) : ∀ (ms : List Int) (x7 : Slot), (∀ x ∈ ms, 0 ≤ x ∧ x ≤ 1000000000) → ∃ y7, forL (.nm 7) (sEx (eCall F_check [] [.ev (eUse 7), .ev (e2 true oPow (eC (.int 10)) (eC (.int 9)))])) (ms.map .int) [some (0, d0), some (0, d1), some (0, d2), some (0, d3), some (0, d4), some (0, d5), some (0, d6), x7, none] = .nx [some (0, d0), some (0, d1), some (0, d2), some (0, d3), some (0, d4), some (0, d5), some (0, d6), y7, none]
  | [], x7, _ => ⟨x7, rfl⟩
  | c :: ms, x7, h => by
    obtain ⟨y7, e⟩ := marksL d0 d1 d2 d3 d4 d5 d6 ms (some (0, .int c)) fun x hx => h x (List.mem_cons_of_mem _ hx)
    refine ⟨y7, ?_⟩
    have hc := h c List.mem_cons_self
    have p9 : oPow ⟨0, false, .int 10⟩ ⟨0, false, .int 9⟩ = some (pureV (.int 1000000000)) := by rw [oPow_i (by decide)]; rfl
    rw [List.map_cons]
    unfold forL
    simp [p9, check_k hc.1 hc.2]
    exact e
theorem writing_k {bs ms : List Int} {bD mD : D} {q : Nat} (hB : SqD bD (bs.map .int)) (hM : SqD mD (ms.map .int)) (h1 : 0 ≤ first ∧ first ≤ 1000000) (h2 : 1 ≤ ms.length ∧ ms.length ≤ 16) (h3 : 0 ≤ at_ ∧ at_ ≤ 1000000000000) (h4 : 0 ≤ asker ∧ asker ≤ 20) (h5 : LateOk latest) (h6 : Rise (-1) bs) (h7 : ∀ x ∈ ms, 0 ≤ x ∧ x ≤ 1000000000) :
    F_writing [pureV (.int first), ⟨q, false, mD⟩, pureV (.int at_), pureV (.int asker), pureV latest, pureV bD, pureV (.bl early)] = .ok ⟨1, false, askD "write" first ms.length (.tup (ms.map .int)) at_ asker latest (.tup (bs.map .int)) early⟩ [none, none, none, none, none, none, none] := by
  have k := with_rest_k (kind := "write") (many := ms.length) (marks := .tup (ms.map .int)) (asker := asker) hB rfl h1 (by omega) h3 h4 h5 h6
  have k0 := ask_init_k (kind := "write") (first := first) (many := ms.length) (at_ := at_) (marks := .tup (ms.map .int)) rfl
  obtain ⟨y7, e⟩ := marksL (.int first) mD (.int at_) (.int asker) latest bD (.bl early) ms none h7
  unfold F_writing runFn c_writing
  rcases hM with rfl | rfl
  · simp [enter, e, k0, k]
    simp [askD, putNs, putDs]
  · simp [enter, e, k0, k]
    simp [askD, putNs, putDs]
theorem resting_k (h3 : 0 ≤ at_ ∧ at_ ≤ 1000000000000) : F_resting [pureV (.int at_)] = .ok ⟨1, false, askD "rest" 0 0 (.tup []) at_ 0 .non (.tup []) false⟩ [none] := by
  have k0 := ask_init_k (kind := "rest") (first := 0) (many := 0) (at_ := at_) (marks := .tup []) rfl
  have p12 : oPow ⟨0, false, .int 10⟩ ⟨0, false, .int 12⟩ = some (pureV (.int 1000000000000)) := by rw [oPow_i (by decide)]; rfl
  have k3 := check_k h3.1 h3.2
  unfold F_resting runFn c_resting
  simp [enter, k0, p12, k3]
end
end Pd
end
section
namespace Pd
open PySem L2 TL
/-! the line, cut -/
def Wok (ws : List Str) : Prop := ∀ w ∈ ws, w.length ≤ 15 ∧ 32 ∉ tl w
theorem wok_app {a b : List Str} (ha : Wok a) (hb : Wok b) : Wok (a ++ b) := fun w hw => (List.mem_append.mp hw).elim (ha w) (hb w)
theorem wok_cons {a : Str} {b : List Str} (ha : a.length ≤ 15 ∧ 32 ∉ tl a) (hb : Wok b) : Wok (a :: b) := fun w hw => (List.mem_cons.mp hw).elim (fun e => e ▸ ha) (hb w)
theorem wok_nil : Wok [] := fun w hw => by simp at hw
theorem wok_num {n : Int} (h0 : 0 ≤ n) (h1 : n < 10 ^ 15) : (numS n).length ≤ 15 ∧ 32 ∉ tl (numS n) := ⟨numS_len h0 (by decide) h1, numS_blank n⟩
theorem wok_nums {ns : List Int} (h : ∀ n ∈ ns, 0 ≤ n ∧ n < 10 ^ 15) : Wok (ns.map numS) := fun w hw => by
  obtain ⟨n, hn, rfl⟩ := List.mem_map.mp hw
  exact wok_num (h n hn).1 (h n hn).2
theorem joinL_len (S : List Nat) : ∀ ps : List (List Nat), (joinL S ps).length ≤ (ps.map fun p => p.length + S.length).sum
  | [] => by simp [joinL]
  | [p] => by simp [joinL]
  | p :: q :: r => by
    have := joinL_len S (q :: r)
    simp only [joinL, List.length_append, List.map_cons, List.sum_cons] at this ⊢
    omega
theorem sum_le : ∀ {ws : List Str}, Wok ws → (ws.map (·.length)).sum ≤ 15 * ws.length
  | [], _ => by simp
  | w :: ws, h => by
    have := sum_le (ws := ws) fun x hx => h x (List.mem_cons_of_mem _ hx)
    have := (h w List.mem_cons_self).1
    simp only [List.map_cons, List.sum_cons, List.length_cons]
    omega
theorem tl_blank : tl (" " : Str) = [32] := by decide +kernel
theorem len_join {ws : List Str} (h : Wok ws) : (Txt.join " " ws).length ≤ 16 * ws.length := by
  rw [join_eq, len_tl, tl_join, tl_blank]
  refine Nat.le_trans (joinL_len _ _) ?_
  rw [List.map_map]
  have : ∀ ws : List Str, (ws.map ((fun p => p.length + [32].length) ∘ tl)).sum = (ws.map (·.length)).sum + ws.length := by
    intro ws
    induction ws with
    | nil => rfl
    | cons w ws ih =>
      rw [List.map_cons, List.sum_cons, List.map_cons, List.sum_cons, ih]
      show (tl w).length + 1 + _ = _ + _ + (ws.length + 1)
      rw [← len_tl]
      omega
  rw [this]
  have := sum_le h
  omega
theorem split_k {ws : List Str} (h : Wok ws) (hn : ws ≠ []) (hl : ws.length < 1000) {q : Nat} {b : Bool} : oSplit (Txt.join " " ws) ⟨q, b, .str " "⟩ = some ⟨1, false, WD ws⟩ := by
  have e : Txt.split (Txt.join " " ws) " " = ws := split_join (s := 32) (S := []) tl_blank (by decide +kernel) hn fun p hp => (h p hp).2
  have h1 := len_join h
  unfold oSplit
  dsimp only
  rw [e, if_pos ⟨by decide +kernel, Nat.le_trans h1 (Nat.le_trans (show 16 * ws.length ≤ 100000 by omega) (by decide)), Nat.le_of_lt (big1000 hl)⟩]
theorem dStrs_map : ∀ ws : List Str, dStrs (ws.map .str) = some ws
  | [] => rfl
  | w :: ws => by simp [dStrs, dStrs_map ws]
theorem join_k {ws : List Str} (h : Wok ws) (hl : ws.length < 1000) {q : Nat} {b : Bool} : oJoin " " ⟨q, b, WD ws⟩ = some (pureV (.str (Txt.join " " ws))) := by
  have h1 := sum_le h
  have l1 : (" " : Str).length = 1 := by decide +kernel
  unfold oJoin
  simp only [dStrs_map, Option.bind_some]
  rw [if_pos (by rw [l1]; omega)]
/-! the words of an ask -/
theorem wok_opt {w : Str} (hw : w.length ≤ 15 ∧ 32 ∉ tl w) {o : Option Int} (ho : ∀ n, o = some n → 0 ≤ n ∧ n < 10 ^ 15) : Wok (optW w o) := by
  cases o with
  | none => exact wok_nil
  | some n => exact wok_cons hw (wok_cons (wok_num (ho n rfl).1 (ho n rfl).2) wok_nil)
theorem wok_tail {o : One} (h : OneOk o) {f : Option Int} (hf : f = some o.asker ∨ (f = none ∧ o.asker = 0)) : Wok (tailW o f) := by
  refine wok_cons ⟨by decide +kernel, by decide +kernel⟩ (wok_cons (wok_num h.at0.1 (by have := h.at0.2; omega)) (wok_app (wok_opt ⟨by decide +kernel, by decide +kernel⟩ fun n e => ?_) (wok_app (wok_opt ⟨by decide +kernel, by decide +kernel⟩ fun n e => ?_) ?_)))
  · rcases hf with hf | ⟨hf, _⟩
    · rw [hf] at e; cases e; have := h.as0; omega
    · rw [hf] at e; cases e
  · have := h.la n e; omega
  · unfold behW
    split
    · exact wok_nil
    · exact wok_cons ⟨by decide +kernel, by decide +kernel⟩ (wok_nums fun n hn => by have := h.bb n hn; omega)
theorem kind_w {o : One} (h : OneOk o) : o.kind.length ≤ 15 ∧ 32 ∉ tl o.kind ∧ PyData.strOk o.kind = true := by
  rcases h.kd with e | e | e | e <;> rw [e] <;> exact ⟨by decide +kernel, by decide +kernel, by decide +kernel⟩
theorem wok_head {o : One} (h : OneOk o) : Wok (headW o) := by
  have k := kind_w h
  refine wok_app (wok_app (wok_app (wok_cons ⟨k.1, k.2.1⟩ wok_nil) ?_) ?_) (wok_nums fun n hn => by have := h.mr n hn; omega)
  · split
    · exact wok_nil
    · exact wok_cons (wok_num h.fi.1 (by have := h.fi.2; omega)) wok_nil
  · split
    · rename_i e
      have := h.my (by rw [e]; decide +kernel)
      exact wok_cons (wok_num (by omega) (by omega)) wok_nil
    · exact wok_nil
theorem len_tail {o : One} (h : OneOk o) (f : Option Int) : (tailW o f).length ≤ 200 := by
  have hb := h.bl
  have e1 : (optW "for" f).length ≤ 2 := by cases f <;> simp [optW]
  have e2 : (optW "by" o.latest).length ≤ 2 := by cases o.latest <;> simp [optW]
  have e3 : (behW o.behind).length ≤ 101 := by unfold behW; split <;> simp; omega
  unfold tailW
  simp only [List.length_cons, List.length_append]
  omega
theorem len_head {o : One} (h : OneOk o) : (headW o).length ≤ 30 := by
  have := h.ml
  unfold headW
  simp only [List.length_append, List.length_cons, List.length_nil, List.length_map]
  split <;> split <;> simp <;> omega
end Pd
end
section
namespace Pd
open PySem L2 TL
def askOf (o : One) : D := if o.kind = "rest" then askD "rest" 0 0 (.tup []) o.at_ 0 .non (.tup []) false else if o.kind = "read" then askD "read" o.first o.many (.tup []) o.at_ o.asker (latD o.latest) (.tup (o.behind.map .int)) false
  else askD "write" o.first o.marks.length (.tup (o.marks.map .int)) o.at_ o.asker (latD o.latest) (.tup (o.behind.map .int)) (decide (o.kind = "early"))
def numsW (o : One) : List Int := o.first :: ((if o.kind = "read" then [o.many] else []) ++ o.marks)
theorem head_nums {o : One} (h : o.kind ≠ "rest") : headW o = o.kind :: (numsW o).map numS := by
  unfold headW numsW
  rw [if_neg h]
  split <;> simp
theorem late_of {o : One} (h : OneOk o) : LateOk (latD o.latest) := by
  cases e : o.latest with
  | none => exact .inl rfl
  | some n => exact .inr ⟨n, rfl, h.la n e⟩
theorem rise_beh {o : One} (h : OneOk o) : Rise (-1) o.behind := rise_of h.be fun n hn => by have := h.bb n hn; omega
theorem nums_ok {o : One} (h : OneOk o) : ∀ n ∈ numsW o, 0 ≤ n ∧ n < 10 ^ 15 := fun n hn => by
  unfold numsW at hn
  rcases List.mem_cons.mp hn with rfl | hn
  · have := h.fi; omega
  · rcases List.mem_append.mp hn with hn | hn
    · split at hn
      · rename_i e
        rw [List.mem_singleton.mp hn]
        have := h.my (by rw [e]; decide +kernel); omega
      · simp at hn
    · have := h.mr n hn; omega
theorem eqK {a b : Str} {q q' : Nat} {x y : Bool} (neg : Bool) (ha : PyData.strOk a = true) (hb : PyData.strOk b = true) {c : Bool} (hc : decide (a = b) = c) : oEqD neg ⟨q, x, .str a⟩ ⟨q', y, .str b⟩ = some (pureV (.bl (c != neg))) := by
  rw [eqv_str _ _ _ _ _ _ _ ha hb, hc]
theorem line_read {o : One} (h : OneOk o) (f : Option Int) (hf : f = some o.asker ∨ (f = none ∧ o.asker = 0)) (hr : o.kind = "rest" → f = none) : F_read_line [pureV (.str (Txt.join " " (headW o ++ tailW o f)))] = .ok ⟨1, false, askOf o⟩ [none] := by
  have hl : (headW o ++ tailW o f).length < 1000 := by have := len_head h; have := len_tail h f; rw [List.length_append]; omega
  have sp := split_k (q := 0) (b := false) (wok_app (wok_head h) (wok_tail h hf)) (by simp [tailW]) hl
  have kw := (kind_w h).2.2
  have x0 : atI ((headW o ++ tailW o f).map D.str) 0 = some (.str o.kind) := by
    have : headW o ++ tailW o f = [] ++ o.kind :: ((headW o).drop 1 ++ tailW o f) := by simp [headW]
    rw [this]; exact atS (pre := [])
  by_cases hk : o.kind = "rest"
  · have r := h.rs hk
    have ew : headW o ++ tailW o f = [("rest" : Str), "at", numS o.at_] := by
      unfold headW tailW optW behW
      rw [hr hk, hk, r.2.2.1, r.2.2.2.2.1, r.2.2.2.2.2]
      rw [if_pos rfl, if_neg (by decide +kernel), if_pos rfl]
      rfl
    have ea : askOf o = askD "rest" 0 0 (.tup []) o.at_ 0 .non (.tup []) false := by unfold askOf; rw [if_pos hk]
    have rk := resting_k h.at0
    have nk := number_in_k h.at0.1 (by have := h.at0.2; omega)
    have e1 : oEqD false ⟨0, false, .str "rest"⟩ ⟨0, false, .str "rest"⟩ = some (pureV (.bl true)) := eqK false (by decide +kernel) (by decide +kernel) (c := true) (by simp)
    have e2 : oEqD true ⟨0, false, .str "at"⟩ ⟨0, false, .str "at"⟩ = some (pureV (.bl false)) := eqK true (by decide +kernel) (by decide +kernel) (c := true) (by simp)
    have y0 : ∀ {A B C : D}, atI [A, B, C] 0 = some A := rfl
    have y1 : ∀ {A B C : D}, atI [A, B, C] 1 = some B := rfl
    have y2 : ∀ {A B C : D}, atI [A, B, C] 2 = some C := rfl
    rw [ea]
    rw [ew] at sp ⊢
    unfold F_read_line runFn c_read_line
    generalize Txt.join " " [("rest" : Str), "at", numS o.at_] = line at *
    unfold WD at sp
    simp only [List.map_cons, List.map_nil] at sp
    generalize numS o.at_ = w at *
    simp [enter, sp, y0, y1, y2, pStr, e1, e2, nk, rk]
  · have eh := head_nums hk
    have e0 := eqK (q := 0) (q' := 0) (x := false) (y := false) false kw (b := "rest") (by decide +kernel) (c := false) (by simpa using hk)
    have im : inV (.str o.kind) [.str "read", .str "write", .str "early"] = true := by
      rcases h.kd with e | e | e | e
      · rw [e]; decide +kernel
      · rw [e]; decide +kernel
      · rw [e]; decide +kernel
      · exact absurd e hk
    have oi : oInS true ⟨0, false, .str o.kind⟩ ⟨0, false, .tup [.str "read", .str "write", .str "early"]⟩ = some (pureV (.bl false)) := by
      unfold oInS
      simp only [fv, sqOf, fvL, Option.bind_some, Option.map_some, im]
      rfl
    have tk := till_k "at" (by decide +kernel) (fun n hn => (numS_word hn).1) (nums := numsW o) (pre := [o.kind]) (T := tailW o f) (nums_ok h) (.inr ⟨_, rfl⟩) (by
      have : [o.kind] ++ (numsW o).map numS ++ tailW o f = headW o ++ tailW o f := by rw [eh]; rfl
      rw [this]; exact hl)
    have ew : [o.kind] ++ (numsW o).map numS ++ tailW o f = headW o ++ tailW o f := by rw [eh]; rfl
    rw [ew] at tk
    have rt := read_tail_k h f hf (headW o) hl
    have el : (headW o).length = [o.kind].length + (numsW o).length := by rw [eh]; simp; omega
    rw [el] at rt
    have h5 := late_of h
    have h6 := rise_beh h
    have tk' : F_numbers_till [pureV (WD (headW o ++ tailW o f)), pureV (.int 1), pureV (.str "at")] = _ := tk
    generalize (([o.kind].length + (numsW o).length : Nat) : Int) = pp at tk' rt
    have il : immut (latD o.latest) = true := by cases o.latest <;> rfl
    have iB : ∀ q b A, part ⟨q, b, A⟩ (.int o.first) = some (pureV (.int o.first)) := fun q b A => by unfold part; rw [if_pos (.inr rfl)]
    by_cases hd : o.kind = "read"
    · have ea : askOf o = askD "read" o.first o.many (.tup []) o.at_ o.asker (latD o.latest) (.tup (o.behind.map .int)) false := by unfold askOf; rw [if_neg hk, if_pos hd]
      have en : numsW o = [o.first, o.many] := by unfold numsW; rw [if_pos hd, h.rd hd]; rfl
      have rk := reading_k (bD := .lst (o.behind.map .int)) (.inl rfl) h.fi (h.my hk) h.at0 h.as0 h5 h6
      have e1 : oEqD false ⟨0, false, .str "read"⟩ ⟨0, false, .str "read"⟩ = some (pureV (.bl true)) := eqK false (by decide +kernel) (by decide +kernel) (c := true) (by simp)
      have y0 : ∀ {A B : D}, atI [A, B] 0 = some A := rfl
      have y1 : ∀ {A B : D}, atI [A, B] 1 = some B := rfl
      have iM : ∀ q b A, part ⟨q, b, A⟩ (.int o.many) = some (pureV (.int o.many)) := fun q b A => by unfold part; rw [if_pos (.inr rfl)]
      rw [ea]
      rw [en] at tk'
      rw [hd] at x0 oi e0
      unfold F_read_line runFn c_read_line
      generalize Txt.join " " (headW o ++ tailW o f) = line at *
      unfold WD at sp tk' rt
      generalize (headW o ++ tailW o f).map D.str = L at *
      generalize o.behind.map D.int = B at *
      generalize latD o.latest = LT at *
      simp only [List.map_cons, List.map_nil] at tk'
      simp [enter, sp, x0, pStr, e0, oi, tk', rt, e1, y0, y1, iB, iM, rk]
    · have ea : askOf o = askD "write" o.first o.marks.length (.tup (o.marks.map .int)) o.at_ o.asker (latD o.latest) (.tup (o.behind.map .int)) (decide (o.kind = "early")) := by unfold askOf; rw [if_neg hk, if_neg hd]
      have en : numsW o = o.first :: o.marks := by unfold numsW; rw [if_neg hd]; rfl
      have hwr : o.kind = "write" ∨ o.kind = "early" := by rcases h.kd with e | e | e | e <;> simp_all
      have hm := h.wr hwr
      have hmy := h.my hk
      have rk := writing_k (q := 1) (early := decide (o.kind = "early")) (bD := .lst (o.behind.map .int)) (mD := .lst (o.marks.map .int)) (.inl rfl) (.inl rfl) h.fi (by omega) h.at0 h.as0 h5 h6 (h.mr)
      have e1 := eqK (q := 0) (q' := 0) (x := false) (y := false) false kw (b := "read") (by decide +kernel) (c := false) (by simpa using hd)
      have e2 := eqK (q := 0) (q' := 0) (x := false) (y := false) false kw (b := "early") (by decide +kernel) (c := decide (o.kind = "early")) rfl
      have y0 : ∀ {A : D} {B : List D}, atI (A :: B) 0 = some A := fun {A B} => by rw [show (0 : Int) = ((0 : Nat) : Int) by rfl, atI_nat]; rfl
      have ct : cutD (.int o.first :: o.marks.map D.int) (some 1) none = o.marks.map D.int := by rw [cutD_1]; rfl
      have l1 : ¬ ((o.marks.map D.int).length : Int) + 1 < 2 := by simp; omega
      rw [ea]
      rw [en] at tk'
      unfold F_read_line runFn c_read_line
      generalize Txt.join " " (headW o ++ tailW o f) = line at *
      unfold WD at sp tk' rt
      generalize (headW o ++ tailW o f).map D.str = L at *
      generalize o.behind.map D.int = B at *
      generalize latD o.latest = LT at *
      simp only [List.map_cons] at tk'
      have l2 : (o.marks.map D.int).length = o.marks.length := List.length_map _
      generalize o.marks.map D.int = MM at *
      generalize o.kind = kk at *
      simp [enter, sp, x0, pStr, e0, oi, tk', rt, e1, y0, ct, e2, iB, rk, l1]
end Pd
end
section
namespace Pd
open PySem L2 TL
theorem seq_nx {f g : SF} {ρ ρ1 : Vr} (e : f ρ = .nx ρ1) : sSeq f g ρ = g ρ1 := by
  rw [run_seq, e]; rfl
theorem add_k {xs ys : List D} {b b' : Bool} (h : xs.length + ys.length ≤ BIG) : oAdd ⟨1, b, .lst xs⟩ ⟨1, b', .lst ys⟩ = some ⟨1, false, .lst (xs ++ ys)⟩ := by
  simp only [oAdd]
  rw [if_pos ⟨Nat.le_refl 1, Nat.le_refl 1, h⟩]
theorem strI_k {n : Int} (h0 : 0 ≤ n) (h1 : n < 10 ^ 15) {q : Nat} {b : Bool} : oStrI ⟨q, b, .int n⟩ = some (pureV (.str (numS n))) := by
  unfold oStrI
  dsimp only
  have : n.natAbs.log2 < 1920 := by
    by_cases h : n.natAbs = 0
    · rw [h]; decide
    · rw [Nat.log2_lt h]
      have h2 : n.natAbs < 10 ^ 15 := by omega
      exact Nat.lt_of_lt_of_le h2 (Nat.le_trans (show 10 ^ 15 ≤ 2 ^ 50 by decide) (Nat.pow_le_pow_right (by decide) (by decide)))
  rw [if_pos this]
theorem lcNumS {vs : List Nat} {iv : Nat} {fe : EF} {ρ : Vr} : ∀ (ns : List Int) (acc : List D), acc.length + ns.length ≤ BIG →
    (∀ n ∈ ns, ∃ ρ1 ρ2, bindT (.nm iv) (.int n) ρ = some ρ1 ∧ fe ρ1 = .ok (pureV (.str (numS n))) ρ2 ∧ wipeV ρ2 vs = ρ) →
    compL vs (.nm iv) (eC (.bl true)) fe (ns.map .int) acc ρ = .ok ⟨1, false, .lst (acc ++ (ns.map numS).map .str)⟩ ρ
  | [], acc, _, _ => by simp [compL]
  | n :: ns, acc, hl, h => by
    obtain ⟨ρ1, ρ2, e1, e2, e3⟩ := h n List.mem_cons_self
    rw [List.length_cons] at hl
    have ih := lcNumS (vs := vs) (iv := iv) (fe := fe) (ρ := ρ) ns (acc ++ [.str (numS n)]) (by simp; omega) fun x hx => h x (List.mem_cons_of_mem _ hx)
    rw [List.map_cons]
    unfold compL
    have hb : acc.length < BIG := by omega
    simp [e1, e2, e3, hb]
    rw [ih]
    simp
section
variable {s0 : Slot} {fe fm : EF} {A : List Str} {n : Int} {x2 x3 : Slot}
theorem app_s (he : fe [s0, some (1, WD A), x2, x3] = .ok (pureV (.int n)) [s0, some (1, WD A), x2, x3]) (h0 : 0 ≤ n) (h1 : n < 10 ^ 15) (hl : A.length < 900) :
    sApp true (lVar 1) (e1 oStrI fe) [s0, some (1, WD A), x2, x3] = .nx [s0, some (1, WD (A ++ [numS n])), x2, x3] := by
  have lb : A.length < BIG := big1000 (by omega)
  have sk := strI_k (q := 0) (b := false) h0 h1
  unfold WD at he ⊢
  simp [he, sk, lb]
theorem add_s (w : Str) (he : fe [s0, some (1, WD A), x2, x3] = .ok (pureV (.int n)) [s0, some (1, WD A), x2, x3]) (h0 : 0 ≤ n) (h1 : n < 10 ^ 15) (hl : A.length < 900) :
    sAs 1 (e2 true oAdd (eVar 1) (eLst [.ev (eC (.str w)), .ev (e1 oStrI fe)])) [s0, some (1, WD A), x2, x3] = .nx [s0, some (1, WD (A ++ [w, numS n])), x2, x3] := by
  have sk := strI_k (q := 0) (b := false) h0 h1
  have ad := add_k (xs := A.map .str) (ys := [.str w, .str (numS n)]) (b := true) (b' := false) (Nat.le_of_lt (big1000 (by simp; omega)))
  unfold WD at he ⊢
  rw [List.map_append]
  generalize A.map D.str = L at *
  simp [he, sk, ad]
theorem marks_s {ms : List Int} (hm : fm [s0, some (1, WD A), none, x3] = .ok (pureV (.tup (ms.map .int))) [s0, some (1, WD A), none, x3]) (hk : ∀ m ∈ ms, 0 ≤ m ∧ m < 10 ^ 15) (he : fe [s0, some (1, WD A), none, x3] = .ok (pureV (.int n)) [s0, some (1, WD A), none, x3]) (h0 : 0 ≤ n) (h1 : n < 10 ^ 15) (hl : A.length < 100) (hl2 : ms.length < 100) :
    sAs 1 (e2 true oAdd (e2 true oAdd (eVar 1) (eLc [2] (.nm 2) (iA fm) (eC (.bl true)) (e1 oStrI (eVar 2)))) (eLst [.ev (eC (.str "at")), .ev (e1 oStrI fe)])) [s0, some (1, WD A), none, x3] = .nx [s0, some (1, WD (A ++ ms.map numS ++ [("at" : Str), numS n])), none, x3] := by
  have sk := strI_k (q := 0) (b := false) h0 h1
  have lc := lcNumS (vs := [2]) (iv := 2) (fe := e1 oStrI (eVar 2)) (ρ := [s0, some (1, WD A), none, x3]) ms [] (Nat.le_of_lt (big1000 (by simp; omega))) (fun m hm => by
    have sk := strI_k (q := 0) (b := false) (hk m hm).1 (hk m hm).2
    refine ⟨[s0, some (1, WD A), some (0, .int m), x3], [s0, some (1, WD A), some (0, .int m), x3], bind_st (by simp) rfl, by simp [sk], by simp [wipeV]⟩)
  rw [List.nil_append] at lc
  have ad := add_k (xs := A.map .str) (ys := (ms.map numS).map .str) (b := true) (b' := false) (Nat.le_of_lt (big1000 (by simp; omega)))
  have ad2 := add_k (xs := A.map .str ++ (ms.map numS).map .str) (ys := [.str "at", .str (numS n)]) (b := false) (b' := false) (Nat.le_of_lt (big1000 (by simp; omega)))
  unfold WD at he hm lc ⊢
  rw [List.map_append, List.map_append]
  generalize A.map D.str = L at *
  generalize (ms.map numS).map D.str = M at *
  simp only [List.map_cons, List.map_nil]
  generalize ms.map D.int = MI at *
  simp [he, hm, sk, ad, ad2, run_lc, wipeV, lc]
theorem beh_s {ms : List Int} (hm : fm [s0, some (1, WD A), x2, none] = .ok (pureV (.tup (ms.map .int))) [s0, some (1, WD A), x2, none]) (hk : ∀ m ∈ ms, 0 ≤ m ∧ m < 10 ^ 15) (hl : A.length < 200) (hl2 : ms.length < 200) :
    sAs 1 (e2 true oAdd (e2 true oAdd (eVar 1) (eLst [.ev (eC (.str "behind"))])) (eLc [3] (.nm 3) (iA fm) (eC (.bl true)) (e1 oStrI (eVar 3)))) [s0, some (1, WD A), x2, none] = .nx [s0, some (1, WD (A ++ ("behind" : Str) :: ms.map numS)), x2, none] := by
  have lc := lcNumS (vs := [3]) (iv := 3) (fe := e1 oStrI (eVar 3)) (ρ := [s0, some (1, WD A), x2, none]) ms [] (Nat.le_of_lt (big1000 (by simp; omega))) (fun m hm => by
    have sk := strI_k (q := 0) (b := false) (hk m hm).1 (hk m hm).2
    refine ⟨[s0, some (1, WD A), x2, some (0, .int m)], [s0, some (1, WD A), x2, some (0, .int m)], bind_st (by simp) rfl, by simp [sk], by simp [wipeV]⟩)
  rw [List.nil_append] at lc
  have ad := add_k (xs := A.map .str) (ys := [.str "behind"]) (b := true) (b' := false) (Nat.le_of_lt (big1000 (by simp; omega)))
  have ad2 := add_k (xs := A.map .str ++ [.str "behind"]) (ys := (ms.map numS).map .str) (b := false) (b' := false) (Nat.le_of_lt (big1000 (by simp; omega)))
  have em : (A ++ ("behind" : Str) :: ms.map numS).map D.str = A.map D.str ++ [.str "behind"] ++ (ms.map numS).map D.str := by simp
  unfold WD at hm lc ⊢
  rw [em]
  generalize A.map D.str = L at *
  generalize (ms.map numS).map D.str = M at *
  generalize ms.map D.int = MI at *
  simp only [List.append_assoc] at *
  simp [hm, ad, ad2, run_lc, wipeV, lc]
end
end Pd
end
section
namespace Pd
open PySem L2 TL
/-! the line of an ask, made word by word -/
theorem sNil_k {c : Bool} {f : SF} {fc : EF} {ρ ρ' : Vr} (hc : fc ρ = .ok (pureV (.bl c)) ρ) (ht : c = true → f ρ = .nx ρ') (hf : c = false → ρ' = ρ) : sIf fc f sNil ρ = .nx ρ' := by
  cases c with
  | true => simp [hc, ht rfl]
  | false => simp [hc, hf rfl]
theorem lenW {o : One} (h : OneOk o) : o.marks.length < 20 ∧ o.behind.length < 110 := ⟨by have := h.ml; omega, by have := h.bl; omega⟩
section
variable {s0 : Slot} {g0 g1 g2 g3 g4 g5 g6 g7 c1 c2 c3 c4 c5 : EF} {o : One}
/-- the words, from where the kind stands -/
theorem words_k (h : OneOk o) (rest : SF)
    (v1 : ∀ A x2 x3, g1 [s0, some (1, WD A), x2, x3] = .ok (pureV (.int o.first)) [s0, some (1, WD A), x2, x3])
    (v2 : o.kind = "read" → ∀ A x2 x3, g2 [s0, some (1, WD A), x2, x3] = .ok (pureV (.int o.many)) [s0, some (1, WD A), x2, x3])
    (v3 : ∀ A x2 x3, g3 [s0, some (1, WD A), x2, x3] = .ok (pureV (.tup (o.marks.map .int))) [s0, some (1, WD A), x2, x3])
    (v4 : ∀ A x2 x3, g4 [s0, some (1, WD A), x2, x3] = .ok (pureV (.int o.at_)) [s0, some (1, WD A), x2, x3])
    (v5 : ∀ A x2 x3, g5 [s0, some (1, WD A), x2, x3] = .ok (pureV (.int o.asker)) [s0, some (1, WD A), x2, x3])
    (v6 : ∀ n, o.latest = some n → ∀ A x2 x3, g6 [s0, some (1, WD A), x2, x3] = .ok (pureV (.int n)) [s0, some (1, WD A), x2, x3])
    (v7 : ∀ A x2 x3, g7 [s0, some (1, WD A), x2, x3] = .ok (pureV (.tup (o.behind.map .int))) [s0, some (1, WD A), x2, x3])
    (k1 : ∀ A x2 x3, c1 [s0, some (1, WD A), x2, x3] = .ok (pureV (.bl (!decide (o.kind = "rest")))) [s0, some (1, WD A), x2, x3])
    (k2 : ∀ A x2 x3, c2 [s0, some (1, WD A), x2, x3] = .ok (pureV (.bl (decide (o.kind = "read")))) [s0, some (1, WD A), x2, x3])
    (k3 : ∀ A x2 x3, c3 [s0, some (1, WD A), x2, x3] = .ok (pureV (.bl (!decide (o.asker = 0)))) [s0, some (1, WD A), x2, x3])
    (k4 : ∀ A x2 x3, c4 [s0, some (1, WD A), x2, x3] = .ok (pureV (.bl o.latest.isSome)) [s0, some (1, WD A), x2, x3])
    (k5 : ∀ A x2 x3, c5 [s0, some (1, WD A), x2, x3] = .ok (pureV (.bl (!decide (o.behind = [])))) [s0, some (1, WD A), x2, x3]) :
    (sSeq (sIf c1 (sApp true (lVar 1) (e1 oStrI g1)) (sNil)) (sSeq (sIf c2 (sApp true (lVar 1) (e1 oStrI g2)) (sNil)) (sSeq (sAs 1 (e2 true oAdd (e2 true oAdd (eVar 1) (eLc [2] (.nm 2) (iA g3) (eC (.bl true)) (e1 oStrI (eVar 2)))) (eLst [.ev (eC (.str "at")), .ev (e1 oStrI g4)]))) (sSeq (sIf c3 (sAs 1 (e2 true oAdd (eVar 1) (eLst [.ev (eC (.str "for")), .ev (e1 oStrI g5)]))) (sNil)) (sSeq (sIf c4 (sAs 1 (e2 true oAdd (eVar 1) (eLst [.ev (eC (.str "by")), .ev (e1 oStrI g6)]))) (sNil)) (sSeq (sIf c5 (sAs 1 (e2 true oAdd (e2 true oAdd (eVar 1) (eLst [.ev (eC (.str "behind"))])) (eLc [3] (.nm 3) (iA g7) (eC (.bl true)) (e1 oStrI (eVar 3))))) (sNil)) rest))))))
      [s0, some (1, WD [o.kind]), none, none] = rest [s0, some (1, WD (wordsW o)), none, none] := by
  have lw := lenW h
  have f0 := h.fi
  have a0 := h.at0
  have s0' := h.as0
  -- first
  rw [seq_nx (ρ1 := [s0, some (1, WD ([o.kind] ++ (if o.kind = "rest" then [] else [numS o.first]))), none, none]) (sNil_k (k1 _ _ _) (fun hc => by
    have hk : ¬ o.kind = "rest" := by simpa using hc
    rw [if_neg hk]
    exact app_s (v1 _ _ _) f0.1 (by omega) (by simp)) (fun hc => by
    have hk : o.kind = "rest" := by simpa using hc
    rw [if_pos hk]; simp))]
  generalize eA : [o.kind] ++ (if o.kind = "rest" then [] else [numS o.first]) = A
  have lA : A.length ≤ 2 := by rw [← eA]; split <;> simp
  rw [seq_nx (ρ1 := [s0, some (1, WD (A ++ (if o.kind = "read" then [numS o.many] else []))), none, none]) (sNil_k (k2 _ _ _) (fun hc => by
    have hk : o.kind = "read" := by simpa using hc
    have hm := h.my (by rw [hk]; decide +kernel)
    rw [if_pos hk]
    exact app_s (v2 hk _ _ _) (by omega) (by omega) (by omega)) (fun hc => by
    have hk : ¬ o.kind = "read" := by simpa using hc
    rw [if_neg hk]; simp))]
  generalize eB : A ++ (if o.kind = "read" then [numS o.many] else []) = B
  have lB : B.length ≤ 3 := by rw [← eB]; split <;> simp <;> omega
  rw [seq_nx (marks_s (v3 _ _ _) (fun m hm => by have := h.mr m hm; omega) (v4 _ _ _) a0.1 (by omega) (by omega) (by omega))]
  generalize eC : B ++ o.marks.map numS ++ [("at" : Str), numS o.at_] = C
  have lC : C.length ≤ 30 := by rw [← eC]; simp; omega
  rw [seq_nx (ρ1 := [s0, some (1, WD (C ++ optW "for" (askO o))), none, none]) (sNil_k (k3 _ _ _) (fun hc => by
    have hk : ¬ o.asker = 0 := by simpa using hc
    unfold askO
    rw [if_neg hk]
    exact add_s "for" (v5 _ _ _) s0'.1 (by omega) (by omega)) (fun hc => by
    have hk : o.asker = 0 := by simpa using hc
    unfold askO
    rw [if_pos hk]; simp [optW]))]
  generalize eD : C ++ optW "for" (askO o) = D'
  have lD : D'.length ≤ 32 := by rw [← eD]; unfold askO; split <;> simp [optW] <;> omega
  rw [seq_nx (ρ1 := [s0, some (1, WD (D' ++ optW "by" o.latest)), none, none]) (sNil_k (k4 _ _ _) (fun hc => by
    obtain ⟨n, hn⟩ := Option.isSome_iff_exists.mp hc
    have := h.la n hn
    rw [hn]
    exact add_s "by" (v6 n hn _ _ _) (by omega) (by omega) (by omega)) (fun hc => by
    have hn : o.latest = none := by simpa using hc
    rw [hn]; simp [optW]))]
  generalize eE : D' ++ optW "by" o.latest = E'
  have lE : E'.length ≤ 34 := by rw [← eE]; cases o.latest <;> simp [optW] <;> omega
  rw [seq_nx (ρ1 := [s0, some (1, WD (E' ++ behW o.behind)), none, none]) (sNil_k (k5 _ _ _) (fun hc => by
    have hk : ¬ o.behind = [] := by simpa using hc
    unfold behW
    rw [if_neg hk]
    exact beh_s (v7 _ _ _) (fun m hm => by have := h.bb m hm; omega) (by omega) (by omega)) (fun hc => by
    have hk : o.behind = [] := by simpa using hc
    unfold behW
    rw [if_pos hk]; simp))]
  have ew : E' ++ behW o.behind = wordsW o := by
    rw [← eE, ← eD, ← eC, ← eB, ← eA]
    unfold wordsW headW tailW
    simp [List.append_assoc]
  rw [ew]
end
theorem wok_words {o : One} (h : OneOk o) : Wok (wordsW o) := wok_app (wok_head h) (wok_tail h (by
  unfold askO
  by_cases e : o.asker = 0
  · rw [if_pos e]; exact .inr ⟨rfl, e⟩
  · rw [if_neg e]; exact .inl rfl))
theorem len_words {o : One} (h : OneOk o) : (wordsW o).length < 1000 := by
  have := len_head h
  have := len_tail h (askO o)
  unfold wordsW
  rw [List.length_append]; omega
theorem eqNum {neg : Bool} {q q' : Nat} {x y : Bool} {i : Int} : oEqD neg ⟨q, x, .int i⟩ ⟨q', y, .int 0⟩ = some (pureV (.bl ((decide (i = 0)) != neg))) := by
  rw [oEq_i]
  congr 3
theorem eq_tup0 {q q' : Nat} {x y : Bool} {ns : List Int} (hl : ns.length ≤ 1000) : oEqD true ⟨q, x, .tup (ns.map .int)⟩ ⟨q', y, .tup []⟩ = some (pureV (.bl (!decide (ns = [])))) := by
  have dp : ∀ ns : List Int, PyData.depthAll (ns.map PyData.int) ≤ 2 := fun ns => by
    induction ns with
    | nil => simp [PyData.depthAll]
    | cons n ns ih => simp [PyData.depthAll, PyData.depth]; omega
  have ly : ∀ ns : List Int, PyData.canLayAll0 (ns.map PyData.int) = true := fun ns => by
    induction ns with
    | nil => simp [PyData.canLayAll0]
    | cons n ns ih => simp [PyData.canLayAll0, PyData.canLay0, ih]
  have pl : ∀ ns : List Int, pydL (ns.map D.int) = some (ns.map PyData.int) := fun ns => by
    induction ns with
    | nil => simp [pydL]
    | cons n ns ih => simp [pydL, pyd, ih]
  have sh : ∀ ns : List Int, ns.length ≤ 1000 → SeqAt.shaped (.tuple (ns.map PyData.int)) = true := fun ns hl => by
    have hb : ns.length ≤ sizeLine := Nat.le_trans hl (by decide +kernel)
    have := dp ns
    simp [SeqAt.shaped, PyData.canLay0, ly, hb, PyData.depth]
    omega
  unfold oEqD
  simp only [pyd, pl, Option.map_some, Option.bind_some, pydL]
  have s0 := sh [] (by simp)
  simp only [List.map_nil] at s0
  rw [if_pos ⟨sh ns hl, s0⟩]
  cases ns with
  | nil => simp [PyData.eqv, PyData.eqvAll]
  | cons n ns => simp [PyData.eqv, PyData.eqvAll]
theorem text_k {o : One} (h : OneOk o) : F__law_text [pureV o.d] = .ok (pureV (.str (Txt.join " " (wordsW o)))) [none] := by
  have kw := (kind_w h).2.2
  have e0 := eqK (q := 0) (q' := 0) (x := false) (y := false) true kw (b := "rest") (by decide +kernel) (c := decide (o.kind = "rest")) rfl
  have e1 := eqK (q := 0) (q' := 0) (x := false) (y := false) false kw (b := "read") (by decide +kernel) (c := decide (o.kind = "read")) rfl
  have i0 : ∀ {a b c d e f g k : D}, atI [a, b, c, d, e, f, g, k] 0 = some a := rfl
  have i1 : ∀ {a b c d e f g k : D}, atI [a, b, c, d, e, f, g, k] 1 = some b := rfl
  have i2 : ∀ {a b c d e f g k : D}, atI [a, b, c, d, e, f, g, k] 2 = some c := rfl
  have i3 : ∀ {a b c d e f g k : D}, atI [a, b, c, d, e, f, g, k] 3 = some d := rfl
  have i4 : ∀ {a b c d e f g k : D}, atI [a, b, c, d, e, f, g, k] 4 = some e := rfl
  have i5 : ∀ {a b c d e f g k : D}, atI [a, b, c, d, e, f, g, k] 5 = some f := rfl
  have i6 : ∀ {a b c d e f g k : D}, atI [a, b, c, d, e, f, g, k] 6 = some g := rfl
  have i7 : ∀ {a b c d e f g k : D}, atI [a, b, c, d, e, f, g, k] 7 = some k := rfl
  have ln : ∀ b, oNotN ⟨0, b, latD o.latest⟩ ⟨0, false, .non⟩ = some (pureV (.bl o.latest.isSome)) := fun b => by cases o.latest <;> rfl
  have t0 := eq_tup0 (q := 0) (q' := 0) (x := false) (y := false) (ns := o.behind) (by have := h.bl; omega)
  have jk := join_k (q := 1) (b := true) (wok_words h) (len_words h)
  unfold F__law_text runFn c__law_text
  simp only [enter]
  have e := words_k (s0 := some (0, o.d)) (o := o) h (g1 := e2 true oIdx (eVar 0) (eC (.int 1))) (g2 := e2 true oIdx (eVar 0) (eC (.int 2))) (g3 := e2 true oIdx (eVar 0) (eC (.int 3))) (g4 := e2 true oIdx (eVar 0) (eC (.int 4))) (g5 := e2 true oIdx (eVar 0) (eC (.int 5))) (g6 := e2 true oIdx (eVar 0) (eC (.int 6))) (g7 := e2 true oIdx (eVar 0) (eC (.int 7)))
    (c1 := e2 true (oEqD true) (e2 true oIdx (eVar 0) (eC (.int 0))) (eC (.str "rest"))) (c2 := e2 true (oEqD false) (e2 true oIdx (eVar 0) (eC (.int 0))) (eC (.str "read"))) (c3 := e2 true (oEqD true) (e2 true oIdx (eVar 0) (eC (.int 5))) (eC (.int 0))) (c4 := e2 true oNotN (e2 true oIdx (eVar 0) (eC (.int 6))) (eC (.non))) (c5 := e2 true (oEqD true) (e2 true oIdx (eVar 0) (eC (.int 7))) (eTup []))
    (sRt (eSt1 oJoin (eC (.str " ")) (eVar 1)))
    (fun A x2 x3 => by unfold One.d WD; simp [i1]) (fun _ A x2 x3 => by unfold One.d WD; simp [i2]) (fun A x2 x3 => by unfold One.d WD; simp [i3]) (fun A x2 x3 => by unfold One.d WD; simp [i4]) (fun A x2 x3 => by unfold One.d WD; simp [i5]) (fun n hn A x2 x3 => by unfold One.d WD; rw [hn]; simp [i6, latD]) (fun A x2 x3 => by unfold One.d WD; simp [i7])
    (fun A x2 x3 => by unfold One.d WD; simp [i0, e0]) (fun A x2 x3 => by unfold One.d WD; simp [i0, e1]) (fun A x2 x3 => by unfold One.d WD; simp [-oEq_i, i5, eqNum]) (fun A x2 x3 => by unfold One.d WD; simp [i6, ln]) (fun A x2 x3 => by unfold One.d WD; simp [i7, t0])
  have hs : (sAs 1 (eLst [.ev (e2 true oIdx (eVar 0) (eC (.int 0)))])) [some (0, o.d), none, none, none] = .nx [some (0, o.d), some (1, WD [o.kind]), none, none] := by
    unfold One.d WD; simp [i0]
  simp only [List.length_cons, List.length_nil, List.map_cons, List.map_nil, and_self, if_true, List.cons_append, List.nil_append]
  show (match (sSeq _ _) [some (0, o.d), none, none, none] with
    | .rt x ρ => RC.ok x (outs [false] ρ)
    | .nx ρ => .ok (pureV .non) (outs [false] ρ)
    | .exc C ns xs _ => .exc C ns xs
    | _ => .stuck) = _
  rw [seq_nx hs, e]
  unfold WD at jk ⊢
  simp [jk]
end Pd
end
section
namespace Pd
open PySem L2 TL
section
variable {kind : Str} {first many at_ asker : Int} {marks latest behind : D} {early : Bool} {m : Nat} {b : Bool}
theorem fa_kind : oFld ft .n_kind ⟨m, b, askD kind first many marks at_ asker latest behind early⟩ = some (pureV (.str kind)) := by
  have e1 : Nm.n_kind ∈ ft .n_Ask := by decide
  simp [askD, oFld, lookN, e1, part, immut]
theorem fa_asker : oFld ft .n_asker ⟨m, b, askD kind first many marks at_ asker latest behind early⟩ = some (pureV (.int asker)) := by
  have e1 : Nm.n_asker ∈ ft .n_Ask := by decide
  simp [askD, oFld, lookN, e1]
theorem fa_early : oFld ft .n_early ⟨m, b, askD kind first many marks at_ asker latest behind early⟩ = some (pureV (.bl early)) := by
  have e1 : Nm.n_early ∈ ft .n_Ask := by decide
  simp [askD, oFld, lookN, e1, part, immut]
theorem fa_latest (h : immut latest = true) : oFld ft .n_latest ⟨m, b, askD kind first many marks at_ asker latest behind early⟩ = some (pureV latest) := by
  have e1 : Nm.n_latest ∈ ft .n_Ask := by decide
  simp [askD, oFld, lookN, e1, part, h]
theorem fa_marks {ms : List D} : oFld ft .n_marks ⟨m, b, askD kind first many (.tup ms) at_ asker latest behind early⟩ = some (pureV (.tup ms)) := by
  have e1 : Nm.n_marks ∈ ft .n_Ask := by decide
  simp [askD, oFld, lookN, e1, part]
theorem fa_behind {bs : List D} : oFld ft .n_behind ⟨m, b, askD kind first many marks at_ asker latest (.tup bs) early⟩ = some (pureV (.tup bs)) := by
  have e1 : Nm.n_behind ∈ ft .n_Ask := by decide
  simp [askD, oFld, lookN, e1, part]
end
theorem imm_late (l : Option Int) : immut (latD l) = true := by cases l <;> rfl
/-- the fields, told by the one drawn -/
def kindW (o : One) : Str := if o.kind = "early" then "write" else o.kind
theorem askOf_eq {o : One} (h : OneOk o) : askOf o = askD (kindW o) o.first o.many (.tup (o.marks.map .int)) o.at_ o.asker (latD o.latest) (.tup (o.behind.map .int)) (decide (o.kind = "early")) := by
  unfold askOf kindW
  by_cases hk : o.kind = "rest"
  · obtain ⟨r1, r2, r3, r4, r5, r6⟩ := h.rs hk
    have n1 : ¬ ("rest" : Str) = "early" := by decide +kernel
    rw [if_pos hk, hk, if_neg n1, r1, r2, r3, r4, r5, r6]
    simp [n1, latD]
  · rw [if_neg hk]
    by_cases hd : o.kind = "read"
    · have n1 : ¬ ("read" : Str) = "early" := by decide +kernel
      rw [if_pos hd, hd, if_neg n1, h.rd hd]
      simp [n1]
    · rw [if_neg hd]
      have hwr : o.kind = "write" ∨ o.kind = "early" := by rcases h.kd with e | e | e | e <;> simp_all
      rw [h.wr hwr]
      by_cases he : o.kind = "early"
      · rw [if_pos he]
      · rw [if_neg he]
        rcases hwr with e | e
        · rw [e]
        · exact absurd e he
theorem kindW_w {o : One} (h : OneOk o) : PyData.strOk (kindW o) = true := by
  unfold kindW
  split
  · decide +kernel
  · exact (kind_w h).2.2
theorem shown_k {o : One} (h : OneOk o) {q : Nat} (hq : q ≤ 1) : F_shown [⟨q, false, askOf o⟩] = .ok (pureV (.str (Txt.join " " (wordsW o)))) [none] := by
  have kw := (kind_w h).2.2
  have kw2 := kindW_w h
  have c0 : decide (kindW o = "rest") = decide (o.kind = "rest") := by
    unfold kindW
    by_cases he : o.kind = "early"
    · rw [if_pos he, he]; decide +kernel
    · rw [if_neg he]
  have c1 : decide (kindW o = "read") = decide (o.kind = "read") := by
    unfold kindW
    by_cases he : o.kind = "early"
    · rw [if_pos he, he]; decide +kernel
    · rw [if_neg he]
  have f0 := eqK (q := 0) (q' := 0) (x := false) (y := false) true kw2 (b := "rest") (by decide +kernel) c0
  have f1 := eqK (q := 0) (q' := 0) (x := false) (y := false) false kw2 (b := "read") (by decide +kernel) c1
  have ln : ∀ b, oNotN ⟨0, b, latD o.latest⟩ ⟨0, false, .non⟩ = some (pureV (.bl o.latest.isSome)) := fun b => by cases o.latest <;> rfl
  have jk := join_k (q := 1) (b := true) (wok_words h) (len_words h)
  have il := imm_late o.latest
  rw [askOf_eq h]
  have ev : ∀ A x2 x3, (eVar 0) [some (q, askD (kindW o) o.first o.many (.tup (o.marks.map .int)) o.at_ o.asker (latD o.latest) (.tup (o.behind.map .int)) (decide (o.kind = "early"))), some (1, WD A), x2, x3] = .ok ⟨q, decide (q ≠ 0), askD (kindW o) o.first o.many (.tup (o.marks.map .int)) o.at_ o.asker (latD o.latest) (.tup (o.behind.map .int)) (decide (o.kind = "early"))⟩ [some (q, askD (kindW o) o.first o.many (.tup (o.marks.map .int)) o.at_ o.asker (latD o.latest) (.tup (o.behind.map .int)) (decide (o.kind = "early"))), some (1, WD A), x2, x3] := fun A x2 x3 => by
    rcases (show q = 0 ∨ q = 1 by omega) with rfl | rfl
    · simp
    · simp [imm_ask]
  have e := words_k (s0 := some (q, askD (kindW o) o.first o.many (.tup (o.marks.map .int)) o.at_ o.asker (latD o.latest) (.tup (o.behind.map .int)) (decide (o.kind = "early")))) (o := o) h (g1 := eFld ft .n_first (eVar 0)) (g2 := eFld ft .n_many (eVar 0)) (g3 := eFld ft .n_marks (eVar 0)) (g4 := eFld ft .n_at (eVar 0)) (g5 := eFld ft .n_asker (eVar 0)) (g6 := eFld ft .n_latest (eVar 0)) (g7 := eFld ft .n_behind (eVar 0))
    (c1 := e2 true (oEqD true) (eFld ft .n_kind (eVar 0)) (eC (.str "rest"))) (c2 := e2 true (oEqD false) (eFld ft .n_kind (eVar 0)) (eC (.str "read"))) (c3 := e2 true (oEqD true) (eFld ft .n_asker (eVar 0)) (eC (.int 0))) (c4 := e2 true oNotN (eFld ft .n_latest (eVar 0)) (eC (.non))) (c5 := e2 true (oB0 fun i j => decide (j < i)) (e1 oLen (eFld ft .n_behind (eVar 0))) (eC (.int 0)))
    (sRt (eSt1 oJoin (eC (.str " ")) (eVar 1)))
    (fun A x2 x3 => by simp [-run_var, ev, fa_first]) (fun _ A x2 x3 => by simp [-run_var, ev, fa_many]) (fun A x2 x3 => by simp [-run_var, -List.map_map, ev, fa_marks]) (fun A x2 x3 => by simp [-run_var, ev, fa_at]) (fun A x2 x3 => by simp [-run_var, ev, fa_asker]) (fun n hn A x2 x3 => by
      have hl : latD o.latest = .int n := by rw [hn]; rfl
      simp [-run_var, ev, fa_latest il]
      exact hl) (fun A x2 x3 => by simp [-run_var, -List.map_map, ev, fa_behind])
    (fun A x2 x3 => by simp [-run_var, ev, fa_kind, f0]) (fun A x2 x3 => by simp [-run_var, ev, fa_kind, f1]) (fun A x2 x3 => by simp [-run_var, -oEq_i, ev, fa_asker, eqNum]) (fun A x2 x3 => by simp [-run_var, ev, fa_latest il, ln]) (fun A x2 x3 => by
      have : decide ((0 : Int) < ((o.behind.map D.int).length : Int)) = !decide (o.behind = []) := by
        cases o.behind with
        | nil => rfl
        | cons x xs => simp
      rw [← this]
      simp [-run_var, ev, fa_behind])
  unfold F_shown runFn c_shown
  simp only [enter]
  generalize hAD : askD (kindW o) o.first o.many (.tup (o.marks.map .int)) o.at_ o.asker (latD o.latest) (.tup (o.behind.map .int)) (decide (o.kind = "early")) = AD at *
  have ev0 : (eVar 0) [some (q, AD), none, none, none] = .ok ⟨q, decide (q ≠ 0), AD⟩ [some (q, AD), none, none, none] := by
    rcases (show q = 0 ∨ q = 1 by omega) with rfl | rfl
    · simp
    · rw [← hAD]; simp [imm_ask]
  have fk : oFld ft .n_kind ⟨q, decide (q ≠ 0), AD⟩ = some (pureV (.str (kindW o))) := by rw [← hAD]; exact fa_kind
  have fe : oFld ft .n_early ⟨q, decide (q ≠ 0), AD⟩ = some (pureV (.bl (decide (o.kind = "early")))) := by rw [← hAD]; exact fa_early
  generalize decide (q ≠ 0) = bb at *
  have hs : (sAs 1 (eLst [.ev (eFld ft .n_kind (eVar 0))])) [some (q, AD), none, none, none] = .nx [some (q, AD), some (1, WD [kindW o]), none, none] := by
    unfold WD; simp [-run_var, ev0, fk]
  have hs2 : (sIf (eFld ft .n_early (eVar 0)) (sAs 1 (eLst [.ev (eC (.str "early"))])) (sNil)) [some (q, AD), some (1, WD [kindW o]), none, none] = .nx [some (q, AD), some (1, WD [o.kind]), none, none] := by
    have evK : (eVar 0) [some (q, AD), some (1, .lst [.str (kindW o)]), none, none] = .ok ⟨q, bb, AD⟩ [some (q, AD), some (1, .lst [.str (kindW o)]), none, none] := ev [kindW o] none none
    show (sIf (eFld ft .n_early (eVar 0)) (sAs 1 (eLst [.ev (eC (.str "early"))])) (sNil)) [some (q, AD), some (1, .lst [.str (kindW o)]), none, none] = .nx [some (q, AD), some (1, .lst [.str o.kind]), none, none]
    by_cases he : o.kind = "early"
    · have fe' : oFld ft .n_early ⟨q, bb, AD⟩ = some (pureV (.bl true)) := by rw [fe]; simp [he]
      rw [he]
      simp [-run_var, evK, fe']
    · have hk : kindW o = o.kind := by unfold kindW; rw [if_neg he]
      have fe' : oFld ft .n_early ⟨q, bb, AD⟩ = some (pureV (.bl false)) := by rw [fe]; simp [he]
      rw [hk] at evK ⊢
      simp [-run_var, evK, fe']
  simp only [List.length_cons, List.length_nil, List.map_cons, List.map_nil, and_self, if_true, List.cons_append, List.nil_append]
  show (match (sSeq _ _) [some (q, AD), none, none, none] with
    | .rt x ρ => RC.ok x (outs [false] ρ)
    | .nx ρ => .ok (pureV .non) (outs [false] ρ)
    | .exc C ns xs _ => .exc C ns xs
    | _ => .stuck) = _
  rw [seq_nx hs, seq_nx hs2, e]
  unfold WD at jk ⊢
  simp [jk]
end Pd
end
section
namespace Pd
open PySem L2 TL
theorem oi0 {a b c d e f g k : D} : atI [a, b, c, d, e, f, g, k] 0 = some a := rfl
theorem oi1 {a b c d e f g k : D} : atI [a, b, c, d, e, f, g, k] 1 = some b := rfl
theorem oi2 {a b c d e f g k : D} : atI [a, b, c, d, e, f, g, k] 2 = some c := rfl
theorem oi3 {a b c d e f g k : D} : atI [a, b, c, d, e, f, g, k] 3 = some d := rfl
theorem oi4 {a b c d e f g k : D} : atI [a, b, c, d, e, f, g, k] 4 = some e := rfl
theorem oi5 {a b c d e f g k : D} : atI [a, b, c, d, e, f, g, k] 5 = some f := rfl
theorem oi6 {a b c d e f g k : D} : atI [a, b, c, d, e, f, g, k] 6 = some g := rfl
theorem oi7 {a b c d e f g k : D} : atI [a, b, c, d, e, f, g, k] 7 = some k := rfl
theorem lmade_k {o : One} (h : OneOk o) (cell : Int) : F__law_made [pureV o.d, pureV (.int cell)] = .ok ⟨1, false, askOf o⟩ [none, none] := by
  have kw := (kind_w h).2.2
  have e0 := eqK (q := 0) (q' := 0) (x := false) (y := false) false kw (b := "rest") (by decide +kernel) (c := decide (o.kind = "rest")) rfl
  have e1 := eqK (q := 0) (q' := 0) (x := false) (y := false) false kw (b := "read") (by decide +kernel) (c := decide (o.kind = "read")) rfl
  have e2 := eqK (q := 0) (q' := 0) (x := false) (y := false) false kw (b := "early") (by decide +kernel) (c := decide (o.kind = "early")) rfl
  have h5 := late_of h
  have h6 := rise_beh h
  have ol : ∀ b ds, oList ⟨0, b, .tup ds⟩ = some ⟨1, false, .lst ds⟩ := fun b ds => by simp [oList]
  unfold F__law_made runFn c__law_made One.d
  by_cases hk : o.kind = "rest"
  · have rk := resting_k h.at0
    have ea : askOf o = askD "rest" 0 0 (.tup []) o.at_ 0 .non (.tup []) false := by unfold askOf; rw [if_pos hk]
    rw [ea]
    simp only [hk, decide_true] at e0
    rw [hk]
    simp [enter, oi0, oi4, e0, rk]
  · simp only [hk, decide_false] at e0
    by_cases hd : o.kind = "read"
    · have ea : askOf o = askD "read" o.first o.many (.tup []) o.at_ o.asker (latD o.latest) (.tup (o.behind.map .int)) false := by unfold askOf; rw [if_neg hk, if_pos hd]
      have r1 := reading_k (bD := .lst (o.behind.map .int)) (.inl rfl) h.fi (h.my hk) h.at0 h.as0 h5 h6
      have r2 := reading_k (bD := .tup (o.behind.map .int)) (.inr rfl) h.fi (h.my hk) h.at0 h.as0 h5 h6
      simp only [hd, decide_true] at e1
      rw [ea]
      rw [hd] at e0 ⊢
      generalize o.behind.map D.int = B at *
      generalize o.marks.map D.int = MM at *
      generalize latD o.latest = LT at *
      by_cases hc : cell % 2 = 0
      · simp [enter, oi0, oi1, oi2, oi3, oi4, oi5, oi6, oi7, e0, e1, hc, ol, r1]
      · have hc' : (cell % 2 == 0) = false := beq_eq_false_iff_ne.mpr hc
        simp [enter, oi0, oi1, oi2, oi3, oi4, oi5, oi6, oi7, e0, e1, hc', ol, r2]
    · have ea : askOf o = askD "write" o.first o.marks.length (.tup (o.marks.map .int)) o.at_ o.asker (latD o.latest) (.tup (o.behind.map .int)) (decide (o.kind = "early")) := by unfold askOf; rw [if_neg hk, if_neg hd]
      have hwr : o.kind = "write" ∨ o.kind = "early" := by rcases h.kd with e | e | e | e <;> simp_all
      have hm := h.wr hwr
      have hmy := h.my hk
      have r1 := writing_k (q := 0) (early := decide (o.kind = "early")) (bD := .lst (o.behind.map .int)) (mD := .lst (o.marks.map .int)) (.inl rfl) (.inl rfl) h.fi (by omega) h.at0 h.as0 h5 h6 (h.mr)
      have r2 := writing_k (q := 0) (early := decide (o.kind = "early")) (bD := .tup (o.behind.map .int)) (mD := .tup (o.marks.map .int)) (.inr rfl) (.inr rfl) h.fi (by omega) h.at0 h.as0 h5 h6 (h.mr)
      simp only [hd, decide_false] at e1
      rw [ea]
      generalize o.behind.map D.int = B at *
      generalize o.marks.map D.int = MM at *
      generalize latD o.latest = LT at *
      generalize decide (o.kind = "early") = ee at *
      generalize o.kind = kk at *
      by_cases hc : cell % 2 = 0
      · simp [enter, oi0, oi1, oi2, oi3, oi4, oi5, oi6, oi7, e0, e1, e2, hc, ol, r1]
      · have hc' : (cell % 2 == 0) = false := beq_eq_false_iff_ne.mpr hc
        simp [enter, oi0, oi1, oi2, oi3, oi4, oi5, oi6, oi7, e0, e1, e2, hc', ol, r2]
theorem whole_k (n : Int) : F__law_whole [pureV (.int n)] = .ok (pureV (.bl true)) [none] := by
  have q1 : oIsi "int" ⟨0, false, .int n⟩ = some (pureV (.bl true)) := rfl
  have q2 : oIsi "bool" ⟨0, false, .int n⟩ = some (pureV (.bl false)) := rfl
  unfold F__law_whole runFn c__law_whole
  simp [enter, q1, q2]
theorem numbers_k (ns : List Int) (hl : ns.length < 1000) : F__law_numbers [pureV (.tup (ns.map .int))] = .ok (pureV (.bl true)) [none] := by
  have q1 : ∀ ds, oIsi "tuple" ⟨0, false, .tup ds⟩ = some (pureV (.bl true)) := fun _ => rfl
  have lc := compL_ok (vs := [1]) (t := .nm 1) (ft := eNot (eCall F__law_whole [] [.ev (eUse 1)])) (fe := eUse 1) (ρ := [some (0, .tup (ns.map .int)), none]) (fun _ => false) (fun d => d) (ns.map .int) [] (fun d hd => by
    obtain ⟨n, _, rfl⟩ := List.mem_map.mp hd
    refine ⟨[some (0, .tup (ns.map .int)), some (0, .int n)], 0, false, [some (0, .tup (ns.map .int)), some (0, .int n)], bind_st (by simp) rfl, by simp [whole_k], fun _ => by simp [wipeV], fun z => by cases z⟩) (Nat.le_of_lt (big1000 (by simp; omega)))
  have on : ∀ q b q' b', oEqN false ⟨q, b, .lst []⟩ ⟨q', b', .lst []⟩ = some (pureV (.bl true)) := fun _ _ _ _ => rfl
  have fl : (ns.map D.int).filter (fun _ => false) = [] := by simp
  rw [fl] at lc
  unfold F__law_numbers runFn c__law_numbers
  generalize ns.map D.int = L at *
  simp at lc
  simp [enter, q1, run_lc, wipeV, lc, on]
theorem pydI : ∀ ns : List Int, pydL (ns.map D.int) = some (ns.map PyData.int)
  | [] => by simp [pydL]
  | n :: ns => by simp [pydL, pyd, pydI ns]
theorem shapedI {ns : List Int} (hl : ns.length ≤ 1000) : SeqAt.shaped (.tuple (ns.map PyData.int)) = true ∧ SeqAt.shaped (.list (ns.map PyData.int)) = true := by
  have dp : ∀ ns : List Int, PyData.depthAll (ns.map PyData.int) ≤ 2 := fun ns => by
    induction ns with
    | nil => simp [PyData.depthAll]
    | cons n ns ih => simp [PyData.depthAll, PyData.depth]; omega
  have ly : ∀ ns : List Int, PyData.canLayAll0 (ns.map PyData.int) = true := fun ns => by
    induction ns with
    | nil => simp [PyData.canLayAll0]
    | cons n ns ih => simp [PyData.canLayAll0, PyData.canLay0, ih]
  have hb : ns.length ≤ sizeLine := Nat.le_trans hl (by decide +kernel)
  have := dp ns
  constructor
  · simp [SeqAt.shaped, PyData.canLay0, ly, hb, PyData.depth]; omega
  · simp [SeqAt.shaped, PyData.canLay0, ly, hb, PyData.depth]; omega
theorem eqvI : ∀ ns : List Int, PyData.eqvAll (ns.map PyData.int) (ns.map PyData.int) = true
  | [] => by simp [PyData.eqvAll]
  | n :: ns => by simp [PyData.eqvAll, PyData.eqv, eqvI ns]
theorem eq_tups {neg : Bool} {q q' : Nat} {x y : Bool} {ns : List Int} (hl : ns.length ≤ 1000) : oEqD neg ⟨q, x, .tup (ns.map .int)⟩ ⟨q', y, .tup (ns.map .int)⟩ = some (pureV (.bl (!neg))) := by
  unfold oEqD
  simp only [pyd, pydI, Option.map_some, Option.bind_some]
  rw [if_pos ⟨(shapedI hl).1, (shapedI hl).1⟩]
  simp [PyData.eqv, eqvI]
theorem eq_lsts {neg : Bool} {q q' : Nat} {x y : Bool} {ns : List Int} (hl : ns.length ≤ 1000) : oEqD neg ⟨q, x, .lst (ns.map .int)⟩ ⟨q', y, .lst (ns.map .int)⟩ = some (pureV (.bl (!neg))) := by
  unfold oEqD
  simp only [pyd, pydI, Option.map_some, Option.bind_some]
  rw [if_pos ⟨(shapedI hl).2, (shapedI hl).2⟩]
  simp [PyData.eqv, eqvI]
theorem eq_bl {neg : Bool} {q q' : Nat} {x y c : Bool} : oEqD neg ⟨q, x, .bl c⟩ ⟨q', y, .bl c⟩ = some (pureV (.bl (!neg))) := by
  unfold oEqD
  simp [pyd, SeqAt.shaped, PyData.canLay0, PyData.depth, PyData.eqv]
theorem same_k {o : One} (h : OneOk o) {q : Nat} (hq : q ≤ 1) : F__law_same [⟨q, false, askOf o⟩, pureV o.d] = .ok (pureV (.bl true)) [none, none] := by
  have kw := (kind_w h).2.2
  have kw2 := kindW_w h
  have g0 := eqK (q := 0) (q' := 0) (x := false) (y := false) false kw (b := "early") (by decide +kernel) (c := decide (o.kind = "early")) rfl
  have g1 := eqK (q := 0) (q' := 0) (x := false) (y := false) true kw2 kw2 (c := true) (by simp)
  have t1 : oIsi "str" ⟨0, false, .str (kindW o)⟩ = some (pureV (.bl true)) := rfl
  have t2 : ∀ c, oIsi "bool" ⟨0, false, .bl c⟩ = some (pureV (.bl true)) := fun _ => rfl
  have il := imm_late o.latest
  have lw := lenW h
  rw [askOf_eq h]
  generalize hAD : askD (kindW o) o.first o.many (.tup (o.marks.map .int)) o.at_ o.asker (latD o.latest) (.tup (o.behind.map .int)) (decide (o.kind = "early")) = AD
  obtain ⟨bb, ev⟩ : ∃ bb, ∀ x1 x2 x3, (eVar 0) [some (q, AD), x1, x2, x3] = .ok ⟨q, bb, AD⟩ [some (q, AD), x1, x2, x3] := by
    rcases (show q = 0 ∨ q = 1 by omega) with rfl | rfl
    · exact ⟨false, fun x1 x2 x3 => by simp⟩
    · exact ⟨true, fun x1 x2 x3 => by rw [← hAD]; simp [imm_ask]⟩
  have fk : oFld ft .n_kind ⟨q, bb, AD⟩ = some (pureV (.str (kindW o))) := by rw [← hAD]; exact fa_kind
  have fe : oFld ft .n_early ⟨q, bb, AD⟩ = some (pureV (.bl (decide (o.kind = "early")))) := by rw [← hAD]; exact fa_early
  have ff : oFld ft .n_first ⟨q, bb, AD⟩ = some (pureV (.int o.first)) := by rw [← hAD]; exact fa_first
  have fm : oFld ft .n_many ⟨q, bb, AD⟩ = some (pureV (.int o.many)) := by rw [← hAD]; exact fa_many
  have fa' : oFld ft .n_at ⟨q, bb, AD⟩ = some (pureV (.int o.at_)) := by rw [← hAD]; exact fa_at
  have fs : oFld ft .n_asker ⟨q, bb, AD⟩ = some (pureV (.int o.asker)) := by rw [← hAD]; exact fa_asker
  have fl : oFld ft .n_latest ⟨q, bb, AD⟩ = some (pureV (latD o.latest)) := by rw [← hAD]; exact fa_latest il
  have fmk : oFld ft .n_marks ⟨q, bb, AD⟩ = some (pureV (.tup (o.marks.map .int))) := by rw [← hAD]; exact fa_marks
  have fb : oFld ft .n_behind ⟨q, bb, AD⟩ = some (pureV (.tup (o.behind.map .int))) := by rw [← hAD]; exact fa_behind
  have nm := numbers_k o.marks (by omega)
  have nb := numbers_k o.behind (by omega)
  have qm := eq_tups (neg := true) (q := 0) (q' := 0) (x := false) (y := false) (ns := o.marks) (by omega)
  have qb := eq_tups (neg := false) (q := 0) (q' := 0) (x := false) (y := false) (ns := o.behind) (by omega)
  have ql := eq_lsts (neg := true) (q := 1) (q' := 1) (x := false) (y := false) (ns := [o.first, o.many, o.at_, o.asker]) (by simp)
  have qe := eq_bl (neg := true) (q := 0) (q' := 0) (x := false) (y := false) (c := decide (o.kind = "early"))
  have w := whole_k
  simp only [List.map_cons, List.map_nil] at ql
  have b4 : (4 : Nat) ≤ BIG := by decide
  -- steps
  have s1 : (sAs 2 (e2 true oIdx (eVar 1) (eC (.int 0)))) [some (q, AD), some (0, o.d), none, none] = .nx [some (q, AD), some (0, o.d), some (0, .str o.kind), none] := by
    unfold One.d; simp [oi0]
  have s2 : (sIf (e2 true (oEqD false) (eVar 2) (eC (.str "early"))) (sAs 2 (eC (.str "write"))) (sNil)) [some (q, AD), some (0, o.d), some (0, .str o.kind), none] = .nx [some (q, AD), some (0, o.d), some (0, .str (kindW o)), none] := by
    unfold kindW
    by_cases he : o.kind = "early"
    · rw [if_pos he]
      simp only [he, decide_true] at g0
      rw [he]
      simp [g0]
    · rw [if_neg he]
      simp only [he, decide_false] at g0
      simp [g0]
  have s3 : (sIf (eOr (eNot (e1 (oIsi "str") (eFld ft .n_kind (eVar 0)))) (eOr (e2 true (oEqD true) (eFld ft .n_kind (eVar 0)) (eVar 2)) (eNot (e1 (oIsi "bool") (eFld ft .n_early (eVar 0)))))) (sRt (eC (.bl false))) (sNil)) [some (q, AD), some (0, o.d), some (0, .str (kindW o)), none] = .nx [some (q, AD), some (0, o.d), some (0, .str (kindW o)), none] := by
    have ev' := ev (some (0, o.d)) (some (0, .str (kindW o))) none
    have v2 : (eVar 2) [some (q, AD), some (0, o.d), some (0, .str (kindW o)), none] = .ok (pureV (.str (kindW o))) [some (q, AD), some (0, o.d), some (0, .str (kindW o)), none] := by simp
    simp [-run_var, ev', v2, fk, t1, g1, fe, t2]
  have s4 : (sIf (e2 true (oEqD true) (eFld ft .n_early (eVar 0)) (e2 true (oEqD false) (e2 true oIdx (eVar 1) (eC (.int 0))) (eC (.str "early")))) (sRt (eC (.bl false))) (sNil)) [some (q, AD), some (0, o.d), some (0, .str (kindW o)), none] = .nx [some (q, AD), some (0, o.d), some (0, .str (kindW o)), none] := by
    have ev' := ev (some (0, o.d)) (some (0, .str (kindW o))) none
    have v1 : (e2 true (oEqD false) (e2 true oIdx (eVar 1) (eC (.int 0))) (eC (.str "early"))) [some (q, AD), some (0, o.d), some (0, .str (kindW o)), none] = .ok (pureV (.bl (decide (o.kind = "early")))) [some (q, AD), some (0, o.d), some (0, .str (kindW o)), none] := by
      unfold One.d; simp [oi0, g0]
    generalize decide (o.kind = "early") = ee at *
    generalize (e2 true (oEqD false) (e2 true oIdx (eVar 1) (eC (.int 0))) (eC (.str "early"))) = X at *
    simp [-run_var, ev', v1, fe, qe]
  have s5 : ∃ y3, (sFor (.nm 3) (iA (eLst [.ev (eFld ft .n_first (eVar 0)), .ev (eFld ft .n_many (eVar 0)), .ev (eFld ft .n_at (eVar 0)), .ev (eFld ft .n_asker (eVar 0))])) (sIf (eNot (eCall F__law_whole [] [.ev (eUse 3)])) (sRt (eC (.bl false))) (sNil))) [some (q, AD), some (0, o.d), some (0, .str (kindW o)), none] = .nx [some (q, AD), some (0, o.d), some (0, .str (kindW o)), y3] := by
    have ev' := ev (some (0, o.d)) (some (0, .str (kindW o))) none
    refine ⟨some (0, .int o.asker), ?_⟩
    have it : (iA (eLst [.ev (eFld ft .n_first (eVar 0)), .ev (eFld ft .n_many (eVar 0)), .ev (eFld ft .n_at (eVar 0)), .ev (eFld ft .n_asker (eVar 0))])) [some (q, AD), some (0, o.d), some (0, .str (kindW o)), none] = .ok [.int o.first, .int o.many, .int o.at_, .int o.asker] ⟨1, false, .lst [.int o.first, .int o.many, .int o.at_, .int o.asker]⟩ [some (q, AD), some (0, o.d), some (0, .str (kindW o)), none] := by
      simp [-run_var, ev', ff, fm, fa', fs, b4]
    have one : ∀ (n : Int) (x3 : Slot) (rest : List D), forL (.nm 3) (sIf (eNot (eCall F__law_whole [] [.ev (eUse 3)])) (sRt (eC (.bl false))) (sNil)) (.int n :: rest) [some (q, AD), some (0, o.d), some (0, .str (kindW o)), x3] = forL (.nm 3) (sIf (eNot (eCall F__law_whole [] [.ev (eUse 3)])) (sRt (eC (.bl false))) (sNil)) rest [some (q, AD), some (0, o.d), some (0, .str (kindW o)), some (0, .int n)] := fun n x3 rest => by
      rw [forL_nx (bind_st (by simp) rfl) (ρ2 := [some (q, AD), some (0, o.d), some (0, .str (kindW o)), some (0, .int n)])]
      show sIf _ _ _ [some (q, AD), some (0, o.d), some (0, .str (kindW o)), some (0, .int n)] = _
      simp [w]
    rw [run_for, it]
    dsimp only [RI.bindS]
    rw [one, one, one, one]
    rfl
  obtain ⟨y3, s5⟩ := s5
  have s6 : (sIf (e2 true (oEqD true) (eLst [.ev (eFld ft .n_first (eVar 0)), .ev (eFld ft .n_many (eVar 0)), .ev (eFld ft .n_at (eVar 0)), .ev (eFld ft .n_asker (eVar 0))]) (eLst [.ev (e2 true oIdx (eVar 1) (eC (.int 1))), .ev (e2 true oIdx (eVar 1) (eC (.int 2))), .ev (e2 true oIdx (eVar 1) (eC (.int 4))), .ev (e2 true oIdx (eVar 1) (eC (.int 5)))])) (sRt (eC (.bl false))) (sNil)) [some (q, AD), some (0, o.d), some (0, .str (kindW o)), y3] = .nx [some (q, AD), some (0, o.d), some (0, .str (kindW o)), y3] := by
    have ev' := ev (some (0, o.d)) (some (0, .str (kindW o))) y3
    have v1 : (eLst [.ev (e2 true oIdx (eVar 1) (eC (.int 1))), .ev (e2 true oIdx (eVar 1) (eC (.int 2))), .ev (e2 true oIdx (eVar 1) (eC (.int 4))), .ev (e2 true oIdx (eVar 1) (eC (.int 5)))]) [some (q, AD), some (0, o.d), some (0, .str (kindW o)), y3] = .ok ⟨1, false, .lst [.int o.first, .int o.many, .int o.at_, .int o.asker]⟩ [some (q, AD), some (0, o.d), some (0, .str (kindW o)), y3] := by
      unfold One.d; simp [oi1, oi2, oi4, oi5, b4]
    generalize (eLst [.ev (e2 true oIdx (eVar 1) (eC (.int 1))), .ev (e2 true oIdx (eVar 1) (eC (.int 2))), .ev (e2 true oIdx (eVar 1) (eC (.int 4))), .ev (e2 true oIdx (eVar 1) (eC (.int 5)))]) = X at *
    simp [-run_var, ev', v1, ff, fm, fa', fs, b4, ql]
  have s7 : (sIf (e2 true oIsN (e2 true oIdx (eVar 1) (eC (.int 6))) (eC (.non))) (sIf (e2 true oNotN (eFld ft .n_latest (eVar 0)) (eC (.non))) (sRt (eC (.bl false))) (sNil)) (sIf (eOr (eNot (eCall F__law_whole [] [.ev (eFld ft .n_latest (eVar 0))])) (e2 true (oEqD true) (eFld ft .n_latest (eVar 0)) (e2 true oIdx (eVar 1) (eC (.int 6))))) (sRt (eC (.bl false))) (sNil))) [some (q, AD), some (0, o.d), some (0, .str (kindW o)), y3] = .nx [some (q, AD), some (0, o.d), some (0, .str (kindW o)), y3] := by
    have ev' := ev (some (0, o.d)) (some (0, .str (kindW o))) y3
    have v1 : (e2 true oIdx (eVar 1) (eC (.int 6))) [some (q, AD), some (0, o.d), some (0, .str (kindW o)), y3] = .ok (pureV (latD o.latest)) [some (q, AD), some (0, o.d), some (0, .str (kindW o)), y3] := by
      unfold One.d; simp [oi6]
    generalize (e2 true oIdx (eVar 1) (eC (.int 6))) = X at *
    generalize o.d = OD at *
    generalize o.latest = lt at *
    cases lt with
    | none =>
      simp only [latD] at v1 fl
      simp [-run_var, ev', v1, fl]
    | some n =>
      simp only [latD] at v1 fl
      simp [-run_var, ev', v1, fl, w n]
  have s8 : (sIf (eOr (eNot (eCall F__law_numbers [] [.ev (eFld ft .n_marks (eVar 0))])) (e2 true (oEqD true) (eFld ft .n_marks (eVar 0)) (e2 true oIdx (eVar 1) (eC (.int 3))))) (sRt (eC (.bl false))) (sNil)) [some (q, AD), some (0, o.d), some (0, .str (kindW o)), y3] = .nx [some (q, AD), some (0, o.d), some (0, .str (kindW o)), y3] := by
    have ev' := ev (some (0, o.d)) (some (0, .str (kindW o))) y3
    have v1 : (e2 true oIdx (eVar 1) (eC (.int 3))) [some (q, AD), some (0, o.d), some (0, .str (kindW o)), y3] = .ok (pureV (.tup (o.marks.map .int))) [some (q, AD), some (0, o.d), some (0, .str (kindW o)), y3] := by
      unfold One.d; simp [oi3]
    generalize (e2 true oIdx (eVar 1) (eC (.int 3))) = X at *
    generalize o.d = OD at *
    generalize o.marks.map D.int = MM at *
    simp [-run_var, ev', v1, fmk, nm, qm]
  have s9 : (eAnd (eCall F__law_numbers [] [.ev (eFld ft .n_behind (eVar 0))]) (e2 true (oEqD false) (eFld ft .n_behind (eVar 0)) (e2 true oIdx (eVar 1) (eC (.int 7))))) [some (q, AD), some (0, o.d), some (0, .str (kindW o)), y3] = .ok (pureV (.bl true)) [some (q, AD), some (0, o.d), some (0, .str (kindW o)), y3] := by
    have ev' := ev (some (0, o.d)) (some (0, .str (kindW o))) y3
    have v1 : (e2 true oIdx (eVar 1) (eC (.int 7))) [some (q, AD), some (0, o.d), some (0, .str (kindW o)), y3] = .ok (pureV (.tup (o.behind.map .int))) [some (q, AD), some (0, o.d), some (0, .str (kindW o)), y3] := by
      unfold One.d; simp [oi7]
    generalize (e2 true oIdx (eVar 1) (eC (.int 7))) = X at *
    generalize o.d = OD at *
    generalize o.behind.map D.int = BB at *
    simp [-run_var, ev', v1, fb, nb, qb]
  unfold F__law_same runFn c__law_same
  simp only [enter, List.length_cons, List.length_nil, List.map_cons, List.map_nil, and_self, if_true, List.cons_append, List.nil_append]
  show (match (sSeq _ _) [some (q, AD), some (0, o.d), none, none] with
    | .rt x ρ => RC.ok x (outs [false, false] ρ)
    | .nx ρ => .ok (pureV .non) (outs [false, false] ρ)
    | .exc C ns xs _ => .exc C ns xs
    | _ => .stuck) = _
  rw [seq_nx s1, seq_nx s2, seq_nx s3, seq_nx s4, seq_nx s5, seq_nx s6, seq_nx s7, seq_nx s8, run_rt, s9]
  rfl
end Pd
end
section
namespace Pd
open PySem L2 TL
theorem lcInt3 {vs : List Nat} {iv : Nat} {fe : EF} {ρ : Vr} {n : Nat} (g : Nat → D) (hn : n ≤ BIG)
    (hfe : ∀ j : Nat, j < n → ∃ ρ1 ρ3, bindT (.nm iv) (.int (j : Int)) ρ = some ρ1 ∧ fe ρ1 = .ok (pureV (g j)) ρ3 ∧ wipeV ρ3 vs = ρ) :
    compL vs (.nm iv) (eC (.bl true)) fe (rng 0 n) [] ρ = .ok ⟨1, false, .lst ((List.range n).map g)⟩ ρ := by
  have := compL_ok (vs := vs) (t := .nm iv) (ft := eC (.bl true)) (fe := fe) (ρ := ρ) (fun _ => true) (fun d => match d with
    | .int x => g x.toNat
    | _ => .non) (rng 0 n) [] ?_ (by simp [rng]; exact hn)
  · rw [this, List.nil_append, List.filter_eq_self.mpr (by simp)]
    congr 2
    unfold rng
    rw [List.map_map]
    congr 1
    apply List.map_congr_left
    intro j _
    show g (0 + (j : Int)).toNat = _
    congr 1; omega
  · intro d hd
    unfold rng at hd
    obtain ⟨j, hj, rfl⟩ := List.mem_map.mp hd
    obtain ⟨ρ1, ρ3, e1, e2, e3⟩ := hfe j (List.mem_range.mp hj)
    refine ⟨ρ1, 0, false, ρ1, by rw [Int.zero_add]; exact e1, rfl, fun z => by simp at z, fun _ => ⟨0, ρ3, ?_, e3⟩⟩
    rw [e2]
    show RE.ok ⟨0, false, g j⟩ ρ3 = RE.ok ⟨0, false, g (0 + (j : Int)).toNat⟩ ρ3
    congr 3; omega
theorem lcEx {P : Int → Prop} {vs : List Nat} {iv : Nat} {fe : EF} {ρ : Vr} {n : Nat} (hn : n ≤ BIG)
    (h : ∀ j : Nat, j < n → ∃ v : Int, P v ∧ ∃ ρ1 ρ3, bindT (.nm iv) (.int (j : Int)) ρ = some ρ1 ∧ fe ρ1 = .ok (pureV (.int v)) ρ3 ∧ wipeV ρ3 vs = ρ) :
    ∃ ns : List Int, ns.length = n ∧ (∀ v ∈ ns, P v) ∧ compL vs (.nm iv) (eC (.bl true)) fe (rng 0 n) [] ρ = .ok ⟨1, false, .lst (ns.map .int)⟩ ρ := by
  obtain ⟨g, hg⟩ : ∃ g : Nat → Int, ∀ j (hj : j < n), P (g j) ∧ ∃ ρ1 ρ3, bindT (.nm iv) (.int (j : Int)) ρ = some ρ1 ∧ fe ρ1 = .ok (pureV (.int (g j))) ρ3 ∧ wipeV ρ3 vs = ρ :=
    ⟨fun j => if hj : j < n then Classical.choose (h j hj) else 0, fun j hj => by dsimp only; rw [dif_pos hj]; exact Classical.choose_spec (h j hj)⟩
  refine ⟨(List.range n).map g, by simp, fun v hv => ?_, ?_⟩
  · obtain ⟨j, hj, rfl⟩ := List.mem_map.mp hv
    exact (hg j (List.mem_range.mp hj)).1
  · rw [lcInt3 (fun j => .int (g j)) hn fun j hj => (hg j hj).2, List.map_map]
    rfl
/-- one of a list, by a number -/
theorem pick_k {L : List D} {i : Int} (h0 : 0 ≤ i) (h1 : i < L.length) : ∃ d ∈ L, atI L i = some d := by
  obtain ⟨k, rfl⟩ := Int.eq_ofNat_of_zero_le h0
  have hk : k < L.length := by omega
  exact ⟨L[k], List.getElem_mem hk, by rw [atI_nat, List.getElem?_eq_getElem hk]⟩
theorem part_im {q : Nat} {b : Bool} {d : D} {c : D} (h : immut c = true) : part ⟨q, b, d⟩ c = some (pureV c) := by unfold part; rw [if_pos (.inr h)]
theorem at_nums {ss : List Int} {k : Nat} (h : k < ss.length) : atI (ss.map D.int) ((k : Nat) : Int) = some (.int (ss.getD k 0)) := by
  rw [atI_nat, List.getElem?_map, List.getElem?_eq_getElem h, List.getD_eq_getElem?_getD, List.getElem?_eq_getElem h]
  rfl
theorem rng_of {ss : List Int} (h : ∀ x ∈ ss, 0 ≤ x ∧ x < 2147483647) (k : Nat) : 0 ≤ ss.getD k 0 ∧ ss.getD k 0 < 2147483647 := by
  by_cases hk : k < ss.length
  · rw [List.getD_eq_getElem?_getD, List.getElem?_eq_getElem hk]
    exact h _ (List.getElem_mem hk)
  · rw [List.getD_eq_getElem?_getD, List.getElem?_eq_none (by omega)]
    exact ⟨by decide, by decide⟩
theorem drawn_k (cell : Int) : ∃ o : One, OneOk o ∧ F__law_drawn [pureV (.int cell)] = .ok (pureV o.d) [none] := by
  have fs := F_stream cell 24 (by decide)
  have hl := stream_len cell 24
  have hr : ∀ x ∈ stream cell 24, 0 ≤ x ∧ x < 2147483647 := stream_ok
  generalize stream cell 24 = ss at fs hl hr
  obtain ⟨g, rg, ag⟩ : ∃ g : Nat → Int, (∀ k, 0 ≤ g k ∧ g k < 2147483647) ∧ ∀ (n : Int) (k : Nat), n = k → k < 24 → atI (ss.map D.int) n = some (.int (g k)) := ⟨fun k => ss.getD k 0, rng_of hr, fun n k e hk => by rw [e]; exact at_nums (by omega)⟩
  generalize ss.map D.int = S at fs ag
  have pi : ∀ q b d i, part ⟨q, b, d⟩ (.int i) = some (pureV (.int i)) := fun q b d i => part_im rfl
  have p12 : oPow ⟨0, false, .int 10⟩ ⟨0, false, .int 12⟩ = some (pureV (.int 1000000000000)) := by rw [oPow_i (by decide)]; rfl
  have p13 : oPow ⟨0, false, .int 10⟩ ⟨0, false, .int 13⟩ = some (pureV (.int 10000000000000)) := by rw [oPow_i (by decide)]; rfl
  have p9 : oPow ⟨0, false, .int 10⟩ ⟨0, false, .int 9⟩ = some (pureV (.int 1000000000)) := by rw [oPow_i (by decide)]; rfl
  have p6 : oPow ⟨0, false, .int 10⟩ ⟨0, false, .int 6⟩ = some (pureV (.int 1000000)) := by rw [oPow_i (by decide)]; rfl
  have b6 : (6 : Nat) ≤ BIG := by decide
  have b3 : (3 : Nat) ≤ BIG := by decide
  have b4 : (4 : Nat) ≤ BIG := by decide
  have b8 : (8 : Nat) ≤ BIG := by decide
  have b2 : (2 : Nat) ≤ BIG := by decide
  -- the kind
  obtain ⟨kd, kin, ak⟩ := pick_k (L := [.str "read", .str "write", .str "early", .str "rest", .str "read", .str "write"]) (i := g 0 % 6) (Int.emod_nonneg _ (by decide)) (Int.emod_lt_of_pos _ (by decide))
  obtain ⟨kind, rfl, hkind⟩ : ∃ kind : Str, kd = .str kind ∧ (kind = "read" ∨ kind = "write" ∨ kind = "early" ∨ kind = "rest") := by
    simp at kin
    rcases kin with h | h | h | h | h | h
    · exact ⟨_, h, .inl rfl⟩
    · exact ⟨_, h, .inr (.inl rfl)⟩
    · exact ⟨_, h, .inr (.inr (.inl rfl))⟩
    · exact ⟨_, h, .inr (.inr (.inr rfl))⟩
    · exact ⟨_, h, .inl rfl⟩
    · exact ⟨_, h, .inr (.inl rfl)⟩
  have i0 := ag 0 0 rfl (by decide); have i1 := ag 1 1 rfl (by decide); have i2 := ag 2 2 rfl (by decide); have i3 := ag 3 3 rfl (by decide); have i4 := ag 4 4 rfl (by decide); have i5 := ag 5 5 rfl (by decide)
  have i6 := ag 6 6 rfl (by decide); have i7 := ag 7 7 rfl (by decide); have i8 := ag 8 8 rfl (by decide); have i9 := ag 9 9 rfl (by decide); have i10 := ag 10 10 rfl (by decide); have i11 := ag 11 11 rfl (by decide)
  have i22 := ag 22 22 rfl (by decide); have i23 := ag 23 23 rfl (by decide)
  have kw : PyData.strOk kind = true := by rcases hkind with e | e | e | e <;> rw [e] <;> decide +kernel
  have r1 := rg 1; have r3 := rg 3; have r5 := rg 5; have r7 := rg 7; have r9 := rg 9; have r22 := rg 22; have r11 := rg 11
  -- the beat
  obtain ⟨ad, ain, aa⟩ := pick_k (L := [.int (g 1 % 100), .int (cell % 1000000000001), .int 1000000000000]) (i := g 2 % 3) (Int.emod_nonneg _ (by decide)) (Int.emod_lt_of_pos _ (by decide))
  obtain ⟨at_, rfl, hat⟩ : ∃ n : Int, ad = .int n ∧ 0 ≤ n ∧ n ≤ 1000000000000 := by
    simp at ain
    rcases ain with h | h | h
    · exact ⟨_, h, by omega⟩
    · exact ⟨_, h, by omega⟩
    · exact ⟨_, h, by omega⟩
  obtain ⟨fd, fin, fa⟩ := pick_k (L := [.int (g 3 % 100), .int (g 3 % 1000001), .int 1000000]) (i := g 4 % 3) (Int.emod_nonneg _ (by decide)) (Int.emod_lt_of_pos _ (by decide))
  obtain ⟨first, rfl, hfirst⟩ : ∃ n : Int, fd = .int n ∧ 0 ≤ n ∧ n ≤ 1000000 := by
    simp at fin
    rcases fin with h | h | h
    · exact ⟨_, h, by omega⟩
    · exact ⟨_, h, by omega⟩
    · exact ⟨_, h, by omega⟩
  obtain ⟨md, min_, ma⟩ := pick_k (L := [.int (1 + g 5 % 3), .int (1 + g 5 % 16), .int 16]) (i := g 6 % 3) (Int.emod_nonneg _ (by decide)) (Int.emod_lt_of_pos _ (by decide))
  obtain ⟨many, rfl, hmany⟩ : ∃ n : Int, md = .int n ∧ 1 ≤ n ∧ n ≤ 16 := by
    simp at min_
    rcases min_ with h | h | h
    · exact ⟨_, h, by omega⟩
    · exact ⟨_, h, by omega⟩
    · exact ⟨_, h, by omega⟩
  obtain ⟨gd, gin, ga⟩ := pick_k (L := [.int 10, .int 1000000001]) (i := g 8 % 2) (Int.emod_nonneg _ (by decide)) (Int.emod_lt_of_pos _ (by decide))
  obtain ⟨gm, rfl, hgm⟩ : ∃ n : Int, gd = .int n ∧ 0 < n ∧ n ≤ 1000000001 := by
    simp at gin
    rcases gin with h | h
    · exact ⟨_, h, by omega⟩
    · exact ⟨_, h, by omega⟩
  obtain ⟨ld, lin, la⟩ := pick_k (L := [.non, .int (g 9 % 100), .int (g 9 * 48271 % 10000000000001), .int 10000000000000]) (i := g 10 % 4) (Int.emod_nonneg _ (by decide)) (Int.emod_lt_of_pos _ (by decide))
  obtain ⟨lat, rfl, hlat⟩ : ∃ l : Option Int, ld = latD l ∧ ∀ n, l = some n → 0 ≤ n ∧ n ≤ 10000000000000 := by
    simp at lin
    rcases lin with h | h | h | h
    · exact ⟨none, h, fun n e => by cases e⟩
    · exact ⟨some _, h, fun n e => by cases e; omega⟩
    · exact ⟨some _, h, fun n e => by cases e; omega⟩
    · exact ⟨some _, h, fun n e => by cases e; omega⟩
  obtain ⟨sd, sin, sa⟩ := pick_k (L := [.int 0, .int 0, .int 20, .int (g 22 % 21)]) (i := g 23 % 4) (Int.emod_nonneg _ (by decide)) (Int.emod_lt_of_pos _ (by decide))
  obtain ⟨asker, rfl, hasker⟩ : ∃ n : Int, sd = .int n ∧ 0 ≤ n ∧ n ≤ 20 := by
    simp at sin
    rcases sin with h | h | h
    · exact ⟨_, h, by omega⟩
    · exact ⟨_, h, by omega⟩
    · exact ⟨_, h, by omega⟩
  have s1 : (sAs 1 (eCall F__law_stream [] [.ev (eUse 0), .ev (eC (.int 24))])) [some (0, .int cell), none, none, none, none, none, none, none, none, none] = .nx [some (0, .int cell), some (1, .lst S), none, none, none, none, none, none, none, none] := by
    have fs' : F__law_stream [pureV (.int cell), pureV (.int 24)] = _ := fs
    simp [fs']
  have ps : ∀ q b d, part ⟨q, b, d⟩ (.str kind) = some (pureV (.str kind)) := fun q b d => part_im rfl
  have s2 : (sAs 2 (e2 true oIdx (eLst [.ev (eC (.str "read")), .ev (eC (.str "write")), .ev (eC (.str "early")), .ev (eC (.str "rest")), .ev (eC (.str "read")), .ev (eC (.str "write"))]) (e2 true oMod (e2 true oIdx (eVar 1) (eC (.int 0))) (eC (.int 6))))) [some (0, .int cell), some (1, .lst S), none, none, none, none, none, none, none, none] = .nx [some (0, .int cell), some (1, .lst S), some (0, .str kind), none, none, none, none, none, none, none] := by
    simp [b6, i0, pi, ak, ps]
  have s3 : ∀ x2, (sAs 3 (e2 true oIdx (eLst [.ev (e2 true oMod (e2 true oIdx (eVar 1) (eC (.int 1))) (eC (.int 100))), .ev (e2 true oMod (eVar 0) (e2 true oAdd (e2 true oPow (eC (.int 10)) (eC (.int 12))) (eC (.int 1)))), .ev (e2 true oPow (eC (.int 10)) (eC (.int 12)))]) (e2 true oMod (e2 true oIdx (eVar 1) (eC (.int 2))) (eC (.int 3))))) [some (0, .int cell), some (1, .lst S), x2, none, none, none, none, none, none, none] = .nx [some (0, .int cell), some (1, .lst S), x2, some (0, .int at_), none, none, none, none, none, none] := fun x2 => by
    simp [b3, i1, i2, pi, p12, aa]
  by_cases hk : kind = "rest"
  · refine ⟨⟨kind, 0, 0, [], at_, 0, none, []⟩, ⟨hkind, fun _ => ⟨rfl, rfl, rfl, rfl, rfl, rfl⟩, ⟨Int.le_refl 0, show (0 : Int) ≤ 1000000 by decide⟩, fun h => absurd hk h, fun _ => rfl, fun h => ?_, (fun n hn => (List.not_mem_nil hn).elim), Nat.zero_le 16, hat, ⟨Int.le_refl 0, show (0 : Int) ≤ 20 by decide⟩, (fun n e => nomatch e), List.Pairwise.nil, (fun n hn => (List.not_mem_nil hn).elim), Nat.zero_le 100⟩, ?_⟩
    · exfalso
      rcases h with h | h
      · exact absurd (hk.symm.trans h) (by decide +kernel)
      · exact absurd (hk.symm.trans h) (by decide +kernel)
    · have q0 := eqK (q := 0) (q' := 0) (x := false) (y := false) false kw (b := "rest") (by decide +kernel) (c := true) (by simpa using hk)
      unfold F__law_drawn runFn c__law_drawn One.d
      simp only [enter, List.length_cons, List.length_nil, List.map_cons, List.map_nil, and_self, if_true, List.cons_append, List.nil_append]
      show (match (sSeq _ _) [some (0, .int cell), none, none, none, none, none, none, none, none, none] with
        | .rt x ρ => RC.ok x (outs [false] ρ)
        | .nx ρ => .ok (pureV .non) (outs [false] ρ)
        | .exc C ns xs _ => .exc C ns xs
        | _ => .stuck) = _
      rw [seq_nx s1, seq_nx s2, seq_nx (s3 _)]
      simp [q0, b8, latD]
  · have q0 := eqK (q := 0) (q' := 0) (x := false) (y := false) false kw (b := "rest") (by decide +kernel) (c := false) (by simpa using hk)
    have q1 := eqK (q := 0) (q' := 0) (x := false) (y := false) true kw (b := "read") (by decide +kernel) (c := decide (kind = "read")) rfl
    have s5 : (sAs 4 (e2 true oIdx (eLst [.ev (e2 true oMod (e2 true oIdx (eVar 1) (eC (.int 3))) (eC (.int 100))), .ev (e2 true oMod (e2 true oIdx (eVar 1) (eC (.int 3))) (e2 true oAdd (e2 true oPow (eC (.int 10)) (eC (.int 6))) (eC (.int 1)))), .ev (e2 true oPow (eC (.int 10)) (eC (.int 6)))]) (e2 true oMod (e2 true oIdx (eVar 1) (eC (.int 4))) (eC (.int 3))))) [some (0, .int cell), some (1, .lst S), some (0, .str kind), some (0, .int at_), none, none, none, none, none, none] = .nx [some (0, .int cell), some (1, .lst S), some (0, .str kind), some (0, .int at_), some (0, .int first), none, none, none, none, none] := by
      simp [b3, i3, i4, pi, p6, fa]
    have s6 : (sAs 5 (e2 true oIdx (eLst [.ev (e2 true oAdd (eC (.int 1)) (e2 true oMod (e2 true oIdx (eVar 1) (eC (.int 5))) (eC (.int 3)))), .ev (e2 true oAdd (eC (.int 1)) (e2 true oMod (e2 true oIdx (eVar 1) (eC (.int 5))) (eC (.int 16)))), .ev (eC (.int 16))]) (e2 true oMod (e2 true oIdx (eVar 1) (eC (.int 6))) (eC (.int 3))))) [some (0, .int cell), some (1, .lst S), some (0, .str kind), some (0, .int at_), some (0, .int first), none, none, none, none, none] = .nx [some (0, .int cell), some (1, .lst S), some (0, .str kind), some (0, .int at_), some (0, .int first), some (0, .int many), none, none, none, none] := by
      simp [b3, i5, i6, pi, ma]
    have s7 : (sAs 6 (eTup [])) [some (0, .int cell), some (1, .lst S), some (0, .str kind), some (0, .int at_), some (0, .int first), some (0, .int many), none, none, none, none] = .nx [some (0, .int cell), some (1, .lst S), some (0, .str kind), some (0, .int at_), some (0, .int first), some (0, .int many), some (0, .tup []), none, none, none] := by
      simp
    have rbm : RB many := by unfold RB; omega
    obtain ⟨ms, ml, mr, mc⟩ := lcEx (P := fun v => 0 ≤ v ∧ v ≤ 1000000000) (vs := [9]) (iv := 9) (n := many.toNat) (fe := e2 true oMod (e2 true oAdd (e2 true oMul (e2 true oIdx (eVar 1) (eC (.int 7))) (e2 true oAdd (eVar 9) (eC (.int 1)))) (eVar 0)) (e2 true oIdx (eLst [.ev (eC (.int 10)), .ev (e2 true oAdd (e2 true oPow (eC (.int 10)) (eC (.int 9))) (eC (.int 1)))]) (e2 true oMod (e2 true oIdx (eVar 1) (eC (.int 8))) (eC (.int 2)))))
      (ρ := [some (0, .int cell), some (1, .lst S), some (0, .str kind), some (0, .int at_), some (0, .int first), some (0, .int many), some (0, .tup []), none, none, none]) (Nat.le_of_lt (big1000 (by omega))) (fun j hj => by
        refine ⟨(g 7 * ((j : Int) + 1) + cell) % gm, ⟨Int.emod_nonneg _ (by omega), by have := Int.emod_lt_of_pos (g 7 * ((j : Int) + 1) + cell) hgm.1; omega⟩, [some (0, .int cell), some (1, .lst S), some (0, .str kind), some (0, .int at_), some (0, .int first), some (0, .int many), some (0, .tup []), none, none, some (0, .int (j : Int))], [some (0, .int cell), some (1, .lst S), some (0, .str kind), some (0, .int at_), some (0, .int first), some (0, .int many), some (0, .tup []), none, none, some (0, .int (j : Int))], bind_st (by simp) rfl, ?_, by simp [wipeV]⟩
        have om : oMul ⟨0, false, .int (g 7)⟩ ⟨0, false, .int ((j : Int) + 1)⟩ = some (pureV (.int (g 7 * ((j : Int) + 1)))) := oMul_l (by omega)
        simp [i7, i8, pi, om, b2, p9, ga, hgm.1])
    have ot : ∀ q ds, oTuple ⟨1, q, .lst ds⟩ = some (pureV (.tup ds)) := fun q ds => by simp
    obtain ⟨marks, mk1, mk2, mk3, mk4, s8⟩ : ∃ marks : List Int, (∀ n ∈ marks, 0 ≤ n ∧ n ≤ 1000000000) ∧ (kind = "read" → marks = []) ∧ (kind ≠ "read" → (marks.length : Int) = many) ∧ marks.length ≤ 16 ∧ (sIf (e2 true (oEqD true) (eVar 2) (eC (.str "read"))) (sAs 6 (e1 oTuple (eLc [9] (.nm 9) (iR1 (eVar 5)) (eC (.bl true)) (e2 true oMod (e2 true oAdd (e2 true oMul (e2 true oIdx (eVar 1) (eC (.int 7))) (e2 true oAdd (eVar 9) (eC (.int 1)))) (eVar 0)) (e2 true oIdx (eLst [.ev (eC (.int 10)), .ev (e2 true oAdd (e2 true oPow (eC (.int 10)) (eC (.int 9))) (eC (.int 1)))]) (e2 true oMod (e2 true oIdx (eVar 1) (eC (.int 8))) (eC (.int 2)))))))) (sNil)) [some (0, .int cell), some (1, .lst S), some (0, .str kind), some (0, .int at_), some (0, .int first), some (0, .int many), some (0, .tup []), none, none, none] = .nx [some (0, .int cell), some (1, .lst S), some (0, .str kind), some (0, .int at_), some (0, .int first), some (0, .int many), some (0, .tup (marks.map .int)), none, none, none] := by
      by_cases hd : kind = "read"
      · refine ⟨[], fun n hn => by simp at hn, fun _ => rfl, fun h => absurd hd h, by simp, ?_⟩
        simp only [hd, decide_true] at q1
        rw [hd]
        simp [q1]
      · refine ⟨ms, mr, fun h => absurd h hd, fun _ => by omega, by omega, ?_⟩
        simp only [hd, decide_false] at q1
        generalize ms.map D.int = MM at *
        simp [q1, eq_true rbm, run_lc, wipeV, mc, ot]
    have il := imm_late lat
    have pl : ∀ q b d, part ⟨q, b, d⟩ (latD lat) = some (pureV (latD lat)) := fun q b d => part_im il
    have om9 : oMul ⟨0, false, .int (g 9)⟩ ⟨0, false, .int 48271⟩ = some (pureV (.int (g 9 * 48271))) := oMul_l (by omega)
    have s9 : ∀ M, (sAs 7 (e2 true oIdx (eLst [.ev (eC (.non)), .ev (e2 true oMod (e2 true oIdx (eVar 1) (eC (.int 9))) (eC (.int 100))), .ev (e2 true oMod (e2 true oMul (e2 true oIdx (eVar 1) (eC (.int 9))) (eC (.int 48271))) (e2 true oAdd (e2 true oPow (eC (.int 10)) (eC (.int 13))) (eC (.int 1)))), .ev (e2 true oPow (eC (.int 10)) (eC (.int 13)))]) (e2 true oMod (e2 true oIdx (eVar 1) (eC (.int 10))) (eC (.int 4))))) [some (0, .int cell), some (1, .lst S), some (0, .str kind), some (0, .int at_), some (0, .int first), some (0, .int many), some (0, .tup M), none, none, none] = .nx [some (0, .int cell), some (1, .lst S), some (0, .str kind), some (0, .int at_), some (0, .int first), some (0, .int many), some (0, .tup M), some (0, latD lat), none, none] := fun M => by
      simp [b4, i9, i10, pi, p13, om9, la, pl]
    have hk9 : 0 ≤ g 11 % 4 * (g 11 / 4 % 4) ∧ g 11 % 4 * (g 11 / 4 % 4) ≤ 9 := by
      have a1 := Int.emod_nonneg (g 11) (show (4 : Int) ≠ 0 by decide)
      have a2 := Int.emod_lt_of_pos (g 11) (show (0 : Int) < 4 by decide)
      have b1 := Int.emod_nonneg (g 11 / 4) (show (4 : Int) ≠ 0 by decide)
      have b2 := Int.emod_lt_of_pos (g 11 / 4) (show (0 : Int) < 4 by decide)
      generalize g 11 % 4 = u at *
      generalize g 11 / 4 % 4 = v at *
      have hu : u = 0 ∨ u = 1 ∨ u = 2 ∨ u = 3 := by omega
      rcases hu with rfl | rfl | rfl | rfl <;> omega
    have om11 : oMul ⟨0, false, .int (g 11 % 4)⟩ ⟨0, false, .int (g 11 / 4 % 4)⟩ = some (pureV (.int (g 11 % 4 * (g 11 / 4 % 4)))) := oMul_l (by omega)
    have rbk : RB (g 11 % 4 * (g 11 / 4 % 4)) := by unfold RB; omega
    obtain ⟨ns, nl, nr, nc⟩ := lcEx (P := fun v => 0 ≤ v ∧ v ≤ 99) (vs := [9]) (iv := 9) (n := (g 11 % 4 * (g 11 / 4 % 4)).toNat) (fe := e2 true oMod (e2 true oIdx (eVar 1) (e2 true oAdd (eC (.int 12)) (eVar 9))) (eC (.int 100)))
      (ρ := [some (0, .int cell), some (1, .lst S), some (0, .str kind), some (0, .int at_), some (0, .int first), some (0, .int many), some (0, .tup (marks.map .int)), some (0, latD lat), none, none]) (Nat.le_of_lt (big1000 (by omega))) (fun j hj => by
        have ij := ag (12 + (j : Int)) (12 + j) (by omega) (by omega)
        refine ⟨g (12 + j) % 100, ⟨Int.emod_nonneg _ (by decide), by have := Int.emod_lt_of_pos (g (12 + j)) (show (0 : Int) < 100 by decide); omega⟩, [some (0, .int cell), some (1, .lst S), some (0, .str kind), some (0, .int at_), some (0, .int first), some (0, .int many), some (0, .tup (marks.map .int)), some (0, latD lat), none, some (0, .int (j : Int))], [some (0, .int cell), some (1, .lst S), some (0, .str kind), some (0, .int at_), some (0, .int first), some (0, .int many), some (0, .tup (marks.map .int)), some (0, latD lat), none, some (0, .int (j : Int))], bind_st (by simp) rfl, ?_, by simp [wipeV]⟩
        simp [ij, pi])
    have s10 : (sAs 8 (eLc [9] (.nm 9) (iR1 (e2 true oMul (e2 true oMod (e2 true oIdx (eVar 1) (eC (.int 11))) (eC (.int 4))) (e2 true oMod (e2 true oDiv (e2 true oIdx (eVar 1) (eC (.int 11))) (eC (.int 4))) (eC (.int 4))))) (eC (.bl true)) (e2 true oMod (e2 true oIdx (eVar 1) (e2 true oAdd (eC (.int 12)) (eVar 9))) (eC (.int 100))))) [some (0, .int cell), some (1, .lst S), some (0, .str kind), some (0, .int at_), some (0, .int first), some (0, .int many), some (0, .tup (marks.map .int)), some (0, latD lat), none, none] = .nx [some (0, .int cell), some (1, .lst S), some (0, .str kind), some (0, .int at_), some (0, .int first), some (0, .int many), some (0, .tup (marks.map .int)), some (0, latD lat), some (1, .lst (ns.map .int)), none] := by
      generalize ns.map D.int = NN at *
      generalize marks.map D.int = MM at *
      generalize latD lat = LT at *
      simp [i11, pi, om11, eq_true rbk, run_lc, wipeV, nc]
    have os : oSorSet ⟨1, true, .lst (ns.map .int)⟩ = some ⟨1, false, .lst ((setS ns).map .int)⟩ := by
      have di : ∀ ns : List Int, dInts (ns.map D.int) = some ns := fun ns => by
        induction ns with
        | nil => rfl
        | cons n ns ih => simp [dInts, ih]
      simp only [oSorSet, di, Option.bind_some]
      rw [if_pos (by omega)]
    have sl : (setS ns).length ≤ ns.length := by
      have : ∀ ns : List Int, (setS ns).length ≤ ns.length := fun ns => by
        induction ns with
        | nil => simp [setS]
        | cons n ns ih =>
          have hi : ∀ (k : Int) (xs : List Int), (insS k xs).length ≤ xs.length + 1 := fun k xs => by
            induction xs with
            | nil => simp [insS]
            | cons x xs ih2 =>
              unfold insS
              split
              · simp
              · split
                · simp
                · simp; exact ih2
          have := hi n (setS ns)
          show (insS n (setS ns)).length ≤ _
          rw [List.length_cons]; omega
      exact this ns
    refine ⟨⟨kind, first, many, marks, at_, asker, lat, setS ns⟩, ⟨hkind, fun h => absurd h hk, hfirst, fun _ => hmany, mk2, fun h => mk3 (by
      rcases h with h | h
      · rw [show kind = _ from h]; decide +kernel
      · rw [show kind = _ from h]; decide +kernel), mk1, mk4, hat, hasker, hlat, ris_setS ns, fun n hn => nr n (mem_setS.mp hn), by show (setS ns).length ≤ 100; omega⟩, ?_⟩
    have s4 : (sIf (e2 true (oEqD false) (eVar 2) (eC (.str "rest"))) (sRt (eTup [.ev (eUse 2), .ev (eC (.int 0)), .ev (eC (.int 0)), .ev (eTup []), .ev (eUse 3), .ev (eC (.int 0)), .ev (eC (.non)), .ev (eTup [])])) (sNil)) [some (0, .int cell), some (1, .lst S), some (0, .str kind), some (0, .int at_), none, none, none, none, none, none] = .nx [some (0, .int cell), some (1, .lst S), some (0, .str kind), some (0, .int at_), none, none, none, none, none, none] := by
      simp [q0]
    unfold F__law_drawn runFn c__law_drawn One.d
    simp only [enter, List.length_cons, List.length_nil, List.map_cons, List.map_nil, and_self, if_true, List.cons_append, List.nil_append]
    show (match (sSeq _ _) [some (0, .int cell), none, none, none, none, none, none, none, none, none] with
      | .rt x ρ => RC.ok x (outs [false] ρ)
      | .nx ρ => .ok (pureV .non) (outs [false] ρ)
      | .exc C ns xs _ => .exc C ns xs
      | _ => .stuck) = _
    rw [seq_nx s1, seq_nx s2, seq_nx (s3 _), seq_nx s4, seq_nx s5, seq_nx s6, seq_nx s7, seq_nx s8, seq_nx (s9 _), seq_nx s10]
    generalize ns.map D.int = NN at *
    generalize marks.map D.int = MM at *
    generalize (setS ns).map D.int = SS at *
    simp [i22, i23, pi, b4, sa, os, b8]
end Pd
end
section
namespace Pd
open PySem L2 TL
def Sok (ws : List Str) : Prop := ∀ w ∈ ws, PyData.strOk w = true
theorem sok_app {a b : List Str} (ha : Sok a) (hb : Sok b) : Sok (a ++ b) := fun w hw => (List.mem_append.mp hw).elim (ha w) (hb w)
theorem sok_cons {a : Str} {b : List Str} (ha : PyData.strOk a = true) (hb : Sok b) : Sok (a :: b) := fun w hw => (List.mem_cons.mp hw).elim (fun e => e ▸ ha) (hb w)
theorem sok_nil : Sok [] := fun w hw => by simp at hw
theorem sok_nums {ns : List Int} (h : ∀ n ∈ ns, 0 ≤ n) : Sok (ns.map numS) := fun w hw => by
  obtain ⟨n, hn, rfl⟩ := List.mem_map.mp hw
  exact numS_ok (h n hn)
theorem sok_opt {w : Str} (hw : PyData.strOk w = true) {o : Option Int} (ho : ∀ n, o = some n → 0 ≤ n) : Sok (optW w o) := by
  cases o with
  | none => exact sok_nil
  | some n => exact sok_cons hw (sok_cons (numS_ok (ho n rfl)) sok_nil)
theorem sok_words {o : One} (h : OneOk o) : Sok (wordsW o) := by
  refine sok_app (sok_app (sok_app (sok_app (sok_cons (kind_w h).2.2 sok_nil) ?_) ?_) (sok_nums fun n hn => (h.mr n hn).1)) (sok_cons (by decide +kernel) (sok_cons (numS_ok h.at0.1) (sok_app (sok_opt (by decide +kernel) fun n e => ?_) (sok_app (sok_opt (by decide +kernel) fun n e => (h.la n e).1) ?_))))
  · split
    · exact sok_nil
    · exact sok_cons (numS_ok h.fi.1) sok_nil
  · split
    · rename_i e
      have := h.my (by rw [e]; decide +kernel)
      exact sok_cons (numS_ok (by omega)) sok_nil
    · exact sok_nil
  · unfold askO at e
    split at e
    · cases e
    · cases e; exact h.as0.1
  · unfold behW
    split
    · exact sok_nil
    · exact sok_cons (by decide +kernel) (sok_nums fun n hn => (h.bb n hn).1)
theorem mem_joinL {S : List Nat} {c : Nat} : ∀ {ps : List (List Nat)}, c ∈ joinL S ps → c ∈ S ∨ ∃ p ∈ ps, c ∈ p
  | [], h => by simp [joinL] at h
  | [p], h => .inr ⟨p, by simp, by simpa [joinL] using h⟩
  | p :: q :: r, h => by
    simp only [joinL, List.mem_append] at h
    rcases h with h | h | h
    · exact .inr ⟨p, by simp, h⟩
    · exact .inl h
    · rcases mem_joinL h with h | ⟨x, hx, h⟩
      · exact .inl h
      · exact .inr ⟨x, List.mem_cons_of_mem _ hx, h⟩
theorem strOk_mem {x : Str} : PyData.strOk x = true ↔ ∀ c ∈ tl x, c < 0x110000 := by
  unfold PyData.strOk
  rw [← Array.all_toList, List.all_eq_true]
  constructor
  · intro h c hc; simpa using h c hc
  · intro h c hc; simpa using h c hc
theorem sok_join {ws : List Str} (h : Sok ws) : PyData.strOk (Txt.join " " ws) = true := by
  rw [strOk_mem]
  intro c hc
  rw [join_eq, tl_join, tl_blank] at hc
  rcases mem_joinL hc with hc | ⟨p, hp, hc⟩
  · rw [List.mem_singleton.mp hc]; decide
  · obtain ⟨w, hw, rfl⟩ := List.mem_map.mp hp
    exact strOk_mem.mp (h w hw) c hc
theorem ask_f {o : One} : askO o = some o.asker ∨ (askO o = none ∧ o.asker = 0) := by
  unfold askO
  by_cases e : o.asker = 0
  · rw [if_pos e]; exact .inr ⟨rfl, e⟩
  · rw [if_neg e]; exact .inl rfl
theorem read_k {o : One} (h : OneOk o) : F_read_line [pureV (.str (Txt.join " " (wordsW o)))] = .ok ⟨1, false, askOf o⟩ [none] :=
  line_read h (askO o) ask_f fun hr => by unfold askO; rw [if_pos (h.rs hr).2.2.2.1]
theorem setS_len : ∀ ns : List Int, (setS ns).length ≤ ns.length := fun ns => by
  induction ns with
  | nil => simp [setS]
  | cons n ns ih =>
    have hi : ∀ (k : Int) (xs : List Int), (insS k xs).length ≤ xs.length + 1 := fun k xs => by
      induction xs with
      | nil => simp [insS]
      | cons x xs ih2 =>
        unfold insS
        split
        · simp
        · split
          · simp
          · simp; exact ih2
    have := hi n (setS ns)
    show (insS n (setS ns)).length ≤ _
    rw [List.length_cons]; omega
theorem dInts_map : ∀ ns : List Int, dInts (ns.map D.int) = some ns := fun ns => by
  induction ns with
  | nil => rfl
  | cons n ns ih => simp [dInts, ih]
theorem lcMapI {vs : List Nat} {iv : Nat} {fe : EF} {ρ : Vr} (g : Int → Int) : ∀ (ns : List Int) (acc : List D), acc.length + ns.length ≤ BIG →
    (∀ n ∈ ns, ∃ ρ1 ρ2, bindT (.nm iv) (.int n) ρ = some ρ1 ∧ fe ρ1 = .ok (pureV (.int (g n))) ρ2 ∧ wipeV ρ2 vs = ρ) →
    compL vs (.nm iv) (eC (.bl true)) fe (ns.map .int) acc ρ = .ok ⟨1, false, .lst (acc ++ (ns.map g).map .int)⟩ ρ
  | [], acc, _, _ => by simp [compL]
  | n :: ns, acc, hl, h => by
    obtain ⟨ρ1, ρ2, e1, e2, e3⟩ := h n List.mem_cons_self
    rw [List.length_cons] at hl
    have ih := lcMapI (vs := vs) (iv := iv) (fe := fe) (ρ := ρ) g ns (acc ++ [.int (g n)]) (by simp; omega) fun x hx => h x (List.mem_cons_of_mem _ hx)
    rw [List.map_cons]
    unfold compL
    have hb : acc.length < BIG := by omega
    simp [e1, e2, e3, hb]
    rw [ih]
    simp
theorem many_behind_k (cell : Int) : F__law_many_behind_right [pureV (.int cell)] = .ok (pureV (.bl true)) [none] := by
  have hc : 0 ≤ cell % 31 ∧ cell % 31 < 31 := ⟨Int.emod_nonneg _ (by decide), Int.emod_lt_of_pos _ (by decide)⟩
  obtain ⟨m, hm⟩ : ∃ m : Nat, 10 + cell % 31 = (m : Int) := ⟨(10 + cell % 31).toNat, (Int.toNat_of_nonneg (by omega)).symm⟩
  have fs := F_stream cell m (by omega)
  have hl := stream_len cell m
  generalize stream cell m = ss at fs hl
  rw [← hm] at fs
  have lc := lcMapI (vs := [5]) (iv := 5) (fe := e2 true oMod (eVar 5) (eC (.int 100))) (ρ := [some (0, .int cell), none, none, none, none, none]) (fun n => n % 100) ss [] (Nat.le_of_lt (big1000 (by simp; omega))) (fun n _ => ⟨[some (0, .int cell), none, none, none, none, some (0, .int n)], [some (0, .int cell), none, none, none, none, some (0, .int n)], bind_st (by simp) rfl, by simp, by simp [wipeV]⟩)
  rw [List.nil_append] at lc
  have os : oSorSet ⟨1, false, .lst ((ss.map fun n => n % 100).map .int)⟩ = some ⟨1, false, .lst ((setS (ss.map fun n => n % 100)).map .int)⟩ := by
    simp only [oSorSet, dInts_map, Option.bind_some]
    rw [if_pos (by rw [List.length_map]; omega)]
  have sl := setS_len (ss.map fun n => n % 100)
  rw [List.length_map] at sl
  have n1 : ¬ ("read" : Str) = "rest" := by decide +kernel
  have n2 : ¬ ("read" : Str) = "write" := by decide +kernel
  have n3 : ¬ ("read" : Str) = "early" := by decide +kernel
  let o : One := ⟨"read", 7, 2, [], 12, 3, none, setS (ss.map fun n => n % 100)⟩
  have ok : OneOk o := ⟨.inl rfl, fun h => absurd h n1, ⟨show (0 : Int) ≤ 7 by decide, show (7 : Int) ≤ 1000000 by decide⟩, fun _ => ⟨show (1 : Int) ≤ 2 by decide, show (2 : Int) ≤ 16 by decide⟩, fun _ => rfl, fun h => by
    exfalso
    rcases h with h | h
    · exact absurd h n2
    · exact absurd h n3, (fun n hn => (List.not_mem_nil hn).elim), Nat.zero_le 16, ⟨show (0 : Int) ≤ 12 by decide, show (12 : Int) ≤ 1000000000000 by decide⟩, ⟨show (0 : Int) ≤ 3 by decide, show (3 : Int) ≤ 20 by decide⟩, (fun n e => nomatch e), ris_setS _, fun n hn => by
      obtain ⟨x, _, rfl⟩ := List.mem_map.mp (mem_setS.mp hn)
      exact ⟨Int.emod_nonneg _ (by decide), by have := Int.emod_lt_of_pos x (show (0 : Int) < 100 by decide); omega⟩, by show (setS _).length ≤ 100; omega⟩
  have eo : o.d = .tup [.str "read", .int 7, .int 2, .tup [], .int 12, .int 3, .non, .tup ((setS (ss.map fun n => n % 100)).map .int)] := rfl
  have tk := text_k ok
  have rk := read_k ok
  have sk := same_k ok (q := 0) (by decide)
  have mk := lmade_k ok cell
  have wk := shown_k ok (q := 1) (by decide)
  have so := sok_join (sok_words ok)
  have oe := eqK (q := 0) (q' := 0) (x := false) (y := false) false so so (c := true) (by simp)
  have im : immut (askOf o) = false := by rw [askOf_eq ok]; rfl
  have nn : ∀ q b, oNotN ⟨q, b, askOf o⟩ ⟨0, false, .non⟩ = some (pureV (.bl true)) := fun q b => by
    rw [askOf_eq ok]; rfl
  have b8 : (8 : Nat) ≤ BIG := by decide
  have ot : ∀ b ds, oTuple ⟨1, b, .lst ds⟩ = some (pureV (.tup ds)) := fun b ds => by simp
  rw [eo] at tk sk mk
  generalize (setS (ss.map fun n => n % 100)).map D.int = NN at *
  generalize (ss.map fun n => n % 100).map D.int = N1 at *
  generalize ss.map D.int = S at *
  generalize Txt.join " " (wordsW o) = line at *
  generalize askOf o = AD at *
  unfold F__law_many_behind_right runFn c__law_many_behind_right
  simp [enter, sTry, fs, run_lc, wipeV, lc, os, ot, b8, tk, rk, sk, mk, wk, oe, nn, im]
end Pd
end
section
namespace Pd
open PySem L2 TL
theorem numS0 : numS 0 = ("0" : Str) := by decide +kernel
theorem find_at : ∀ (A : List Str) (T : List Str), (∀ w ∈ A, w ≠ ("at" : Str)) → (A ++ ("at" : Str) :: T).findIdx? (fun u => decide (u = ("at" : Str))) = some A.length
  | [], T, _ => by rw [List.nil_append, List.findIdx?_cons, if_pos (by simp)]; rfl
  | a :: A, T, h => by
    have ih := find_at A T fun w hw => h w (List.mem_cons_of_mem _ hw)
    have ha := h a List.mem_cons_self
    rw [List.cons_append, List.findIdx?_cons, if_neg (by simpa using ha), ih]
    rfl
theorem head_at {o : One} (h : OneOk o) : ∀ w ∈ headW o, w ≠ ("at" : Str) := fun w hw => by
  unfold headW at hw
  rcases List.mem_append.mp hw with hw | hw
  · rcases List.mem_append.mp hw with hw | hw
    · rcases List.mem_append.mp hw with hw | hw
      · rw [List.mem_singleton.mp hw]
        rcases h.kd with e | e | e | e <;> rw [e] <;> decide +kernel
      · split at hw
        · simp at hw
        · rw [List.mem_singleton.mp hw]; exact (numS_word h.fi.1).1
    · split at hw
      · rename_i e
        have := h.my (by rw [e]; decide +kernel)
        rw [List.mem_singleton.mp hw]; exact (numS_word (by omega)).1
      · simp at hw
  · obtain ⟨n, hn, rfl⟩ := List.mem_map.mp hw
    exact (numS_word (h.mr n hn).1).1
theorem bodyL (d0 : D) : ∀ (cs : List Int) (x1 x2 x3 x4 x5 x6 : Slot), ∃ (y1 y2 y3 y4 y5 y6 : Slot), forL (.nm 1) (sSeq (sAs 2 (eCall F__law_drawn [] [.ev (eUse 1)])) (sSeq (sAs 3 (eCall F__law_text [] [.ev (eUse 2)])) (sSeq (sAs 4 (eCall F_shown [] [.ev (eCall F__law_made [] [.ev (eUse 2), .ev (eUse 1)])])) (sSeq (sIf (eOr (eNot (e1 (oIsi "str") (eVar 4))) (eOr (e2 true (oEqD true) (eVar 4) (eVar 3)) (eNot (eCall F__law_same [] [.ev (eCall F_read_line [] [.ev (eUse 3)]), .ev (eUse 2)])))) (sRt (eC (.bl false))) (sNil)) (sIf (eAnd (e2 true (oEqD true) (e2 true oIdx (eVar 2) (eC (.int 0))) (eC (.str "rest"))) (e2 true (oEqD false) (e2 true oIdx (eVar 2) (eC (.int 5))) (eC (.int 0)))) (sSeq (sAs 5 (eSt1 oSplit (eVar 3) (eC (.str " ")))) (sSeq (sAs 6 (e2 true oAdd (eIndex (eVar 5) (eC (.str "at"))) (eC (.int 2)))) (sIf (eNot (eCall F__law_same [] [.ev (eCall F_read_line [] [.ev (eSt1 oJoin (eC (.str " ")) (e2 true oAdd (e2 true oAdd (eSlc (eVar 5) none (some (eVar 6))) (eLst [.ev (eC (.str "for")), .ev (eC (.str "0"))])) (eSlc (eVar 5) (some (eVar 6)) none)))]), .ev (eUse 2)])) (sRt (eC (.bl false))) (sNil)))) (sNil))))))
    (cs.map .int) [some (0, d0), x1, x2, x3, x4, x5, x6] = .nx [some (0, d0), y1, y2, y3, y4, y5, y6]
  | [], x1, x2, x3, x4, x5, x6 => ⟨x1, x2, x3, x4, x5, x6, by simp [forL]⟩
  | c :: cs, x1, x2, x3, x4, x5, x6 => by
    obtain ⟨o, ok, dk⟩ := drawn_k c
    have tk := text_k ok
    have rk := read_k ok
    have sk := same_k ok (q := 1) (by decide)
    have mk := lmade_k ok c
    have wk := shown_k ok (q := 1) (by decide)
    have so := sok_join (sok_words ok)
    have oe := eqK (q := 0) (q' := 0) (x := false) (y := false) true so so (c := true) (by simp)
    have kw := (kind_w ok).2.2
    have q0 := eqK (q := 0) (q' := 0) (x := false) (y := false) true kw (b := "rest") (by decide +kernel) (c := decide (o.kind = "rest")) rfl
    have ts : ∀ z : Str, oIsi "str" ⟨0, false, .str z⟩ = some (pureV (.bl true)) := fun _ => rfl
    rw [List.map_cons]
    have e2' : (sAs 2 (eCall F__law_drawn [] [.ev (eUse 1)])) [some (0, d0), some (0, .int c), x2, x3, x4, x5, x6] = .nx [some (0, d0), some (0, .int c), some (0, o.d), x3, x4, x5, x6] := by simp [dk]
    have e3' : (sAs 3 (eCall F__law_text [] [.ev (eUse 2)])) [some (0, d0), some (0, .int c), some (0, o.d), x3, x4, x5, x6] = .nx [some (0, d0), some (0, .int c), some (0, o.d), some (0, .str (Txt.join " " (wordsW o))), x4, x5, x6] := by simp [tk]
    have e4' : (sAs 4 (eCall F_shown [] [.ev (eCall F__law_made [] [.ev (eUse 2), .ev (eUse 1)])])) [some (0, d0), some (0, .int c), some (0, o.d), some (0, .str (Txt.join " " (wordsW o))), x4, x5, x6] = .nx [some (0, d0), some (0, .int c), some (0, o.d), some (0, .str (Txt.join " " (wordsW o))), some (0, .str (Txt.join " " (wordsW o))), x5, x6] := by simp [mk, wk]
    have e5' : (sIf (eOr (eNot (e1 (oIsi "str") (eVar 4))) (eOr (e2 true (oEqD true) (eVar 4) (eVar 3)) (eNot (eCall F__law_same [] [.ev (eCall F_read_line [] [.ev (eUse 3)]), .ev (eUse 2)])))) (sRt (eC (.bl false))) (sNil)) [some (0, d0), some (0, .int c), some (0, o.d), some (0, .str (Txt.join " " (wordsW o))), some (0, .str (Txt.join " " (wordsW o))), x5, x6] = .nx [some (0, d0), some (0, .int c), some (0, o.d), some (0, .str (Txt.join " " (wordsW o))), some (0, .str (Txt.join " " (wordsW o))), x5, x6] := by
      generalize Txt.join " " (wordsW o) = line at *
      simp [ts, oe, rk, sk]
    have fin : ∃ y5 y6, (sIf (eAnd (e2 true (oEqD true) (e2 true oIdx (eVar 2) (eC (.int 0))) (eC (.str "rest"))) (e2 true (oEqD false) (e2 true oIdx (eVar 2) (eC (.int 5))) (eC (.int 0)))) (sSeq (sAs 5 (eSt1 oSplit (eVar 3) (eC (.str " ")))) (sSeq (sAs 6 (e2 true oAdd (eIndex (eVar 5) (eC (.str "at"))) (eC (.int 2)))) (sIf (eNot (eCall F__law_same [] [.ev (eCall F_read_line [] [.ev (eSt1 oJoin (eC (.str " ")) (e2 true oAdd (e2 true oAdd (eSlc (eVar 5) none (some (eVar 6))) (eLst [.ev (eC (.str "for")), .ev (eC (.str "0"))])) (eSlc (eVar 5) (some (eVar 6)) none)))]), .ev (eUse 2)])) (sRt (eC (.bl false))) (sNil)))) (sNil)) [some (0, d0), some (0, .int c), some (0, o.d), some (0, .str (Txt.join " " (wordsW o))), some (0, .str (Txt.join " " (wordsW o))), x5, x6] = .nx [some (0, d0), some (0, .int c), some (0, o.d), some (0, .str (Txt.join " " (wordsW o))), some (0, .str (Txt.join " " (wordsW o))), y5, y6] := by
      have test : (eAnd (e2 true (oEqD true) (e2 true oIdx (eVar 2) (eC (.int 0))) (eC (.str "rest"))) (e2 true (oEqD false) (e2 true oIdx (eVar 2) (eC (.int 5))) (eC (.int 0)))) [some (0, d0), some (0, .int c), some (0, o.d), some (0, .str (Txt.join " " (wordsW o))), some (0, .str (Txt.join " " (wordsW o))), x5, x6] = .ok (pureV (.bl (!decide (o.kind = "rest") && decide (o.asker = 0)))) [some (0, d0), some (0, .int c), some (0, o.d), some (0, .str (Txt.join " " (wordsW o))), some (0, .str (Txt.join " " (wordsW o))), x5, x6] := by
        generalize Txt.join " " (wordsW o) = line at *
        unfold One.d
        cases hd : decide (o.kind = "rest") with
        | true => rw [hd] at q0; simp [oi0, q0]
        | false => rw [hd] at q0; simp [-oEq_i, oi0, oi5, q0, eqNum]
      cases hb : (!decide (o.kind = "rest") && decide (o.asker = 0)) with
      | false =>
        rw [hb] at test
        refine ⟨x5, x6, ?_⟩
        rw [run_if, test]
        rfl
      | true =>
        rw [hb] at test
        have hk : ¬ o.kind = "rest" ∧ o.asker = 0 := by simpa using hb
        have af : askO o = none := by unfold askO; rw [if_pos hk.2]
        -- the words
        have ew : wordsW o = headW o ++ ("at" : Str) :: numS o.at_ :: (optW "by" o.latest ++ behW o.behind) := by
          unfold wordsW tailW; rw [af]; rfl
        have ew2 : headW o ++ tailW o (some 0) = (headW o ++ [("at" : Str), numS o.at_]) ++ [("for" : Str), "0"] ++ (optW "by" o.latest ++ behW o.behind) := by
          have e0 : optW "for" (some 0) = [("for" : Str), "0"] := by
            show [("for" : Str), numS 0] = _
            rw [numS0]
          unfold tailW
          rw [e0]; simp
        have hlw := len_words ok
        have sp := split_k (q := 0) (b := false) (wok_words ok) (by rw [ew]; simp) hlw
        have fi : (wordsW o).findIdx? (fun u => decide (u = ("at" : Str))) = some (headW o).length := by rw [ew]; exact find_at _ _ (head_at ok)
        have ix : oIndex ((wordsW o).map .str) ⟨0, false, .str "at"⟩ = some (pureV (.int ((headW o).length : Int))) := by
          simp only [oIndex, dStrs_map, Option.bind_some, fi]
          rfl
        have c1 : cutD ((wordsW o).map D.str) none (some (((headW o).length + 2 : Nat) : Int)) = (headW o ++ [("at" : Str), numS o.at_]).map .str := by
          rw [cutD_to, ← List.map_take, ew]
          congr 1
          rw [show headW o ++ ("at" : Str) :: numS o.at_ :: (optW "by" o.latest ++ behW o.behind) = (headW o ++ [("at" : Str), numS o.at_]) ++ (optW "by" o.latest ++ behW o.behind) by simp]
          exact List.take_left' (by simp)
        have c2 : cutD ((wordsW o).map D.str) (some (((headW o).length + 2 : Nat) : Int)) none = (optW "by" o.latest ++ behW o.behind).map .str := by
          rw [cutD_from, ← List.map_drop, ew]
          congr 1
          rw [show headW o ++ ("at" : Str) :: numS o.at_ :: (optW "by" o.latest ++ behW o.behind) = (headW o ++ [("at" : Str), numS o.at_]) ++ (optW "by" o.latest ++ behW o.behind) by simp]
          exact List.drop_left' (by simp)
        have hf0 : some (0 : Int) = some o.asker ∨ (some (0 : Int) = none ∧ o.asker = 0) := .inl (by rw [hk.2])
        have lt2 := len_tail ok (some 0)
        have lh2 := len_head ok
        have jk := join_k (q := 1) (b := false) (wok_app (wok_head ok) (wok_tail ok hf0)) (by rw [List.length_append]; omega)
        have rk2 := line_read ok (some 0) hf0 (fun h => absurd h hk.1)
        have le : ((headW o ++ [("at" : Str), numS o.at_]) ++ [("for" : Str), "0"] ++ (optW "by" o.latest ++ behW o.behind)).length < 1000 := by rw [← ew2, List.length_append]; omega
        have a1 := add_k (xs := (headW o ++ [("at" : Str), numS o.at_]).map .str) (ys := [.str "for", .str "0"]) (b := false) (b' := false) (Nat.le_of_lt (big1000 (by simp at le ⊢; omega)))
        have a2 := add_k (xs := (headW o ++ [("at" : Str), numS o.at_]).map .str ++ [.str "for", .str "0"]) (ys := (optW "by" o.latest ++ behW o.behind).map .str) (b := false) (b' := false) (Nat.le_of_lt (big1000 (by simp at le ⊢; omega)))
        have em : (headW o ++ [("at" : Str), numS o.at_]).map D.str ++ [.str "for", .str "0"] ++ (optW "by" o.latest ++ behW o.behind).map D.str = (headW o ++ tailW o (some 0)).map D.str := by rw [ew2]; simp
        rw [em] at a2
        have s5 : (sAs 5 (eSt1 oSplit (eVar 3) (eC (.str " ")))) [some (0, d0), some (0, .int c), some (0, o.d), some (0, .str (Txt.join " " (wordsW o))), some (0, .str (Txt.join " " (wordsW o))), x5, x6] = .nx [some (0, d0), some (0, .int c), some (0, o.d), some (0, .str (Txt.join " " (wordsW o))), some (0, .str (Txt.join " " (wordsW o))), some (1, WD (wordsW o)), x6] := by
          generalize Txt.join " " (wordsW o) = line at *
          simp [sp]
        have s6 : (sAs 6 (e2 true oAdd (eIndex (eVar 5) (eC (.str "at"))) (eC (.int 2)))) [some (0, d0), some (0, .int c), some (0, o.d), some (0, .str (Txt.join " " (wordsW o))), some (0, .str (Txt.join " " (wordsW o))), some (1, WD (wordsW o)), x6] = .nx [some (0, d0), some (0, .int c), some (0, o.d), some (0, .str (Txt.join " " (wordsW o))), some (0, .str (Txt.join " " (wordsW o))), some (1, WD (wordsW o)), some (0, .int (((headW o).length + 2 : Nat) : Int))] := by
          have ec : (((headW o).length + 2 : Nat) : Int) = ((headW o).length : Int) + 2 := by omega
          rw [ec]
          unfold WD
          generalize Txt.join " " (wordsW o) = line at *
          generalize (wordsW o).map D.str = L at *
          simp [ix]
        have s7 : (sIf (eNot (eCall F__law_same [] [.ev (eCall F_read_line [] [.ev (eSt1 oJoin (eC (.str " ")) (e2 true oAdd (e2 true oAdd (eSlc (eVar 5) none (some (eVar 6))) (eLst [.ev (eC (.str "for")), .ev (eC (.str "0"))])) (eSlc (eVar 5) (some (eVar 6)) none)))]), .ev (eUse 2)])) (sRt (eC (.bl false))) (sNil)) [some (0, d0), some (0, .int c), some (0, o.d), some (0, .str (Txt.join " " (wordsW o))), some (0, .str (Txt.join " " (wordsW o))), some (1, WD (wordsW o)), some (0, .int (((headW o).length + 2 : Nat) : Int))] = .nx [some (0, d0), some (0, .int c), some (0, o.d), some (0, .str (Txt.join " " (wordsW o))), some (0, .str (Txt.join " " (wordsW o))), some (1, WD (wordsW o)), some (0, .int (((headW o).length + 2 : Nat) : Int))] := by
          unfold WD at jk ⊢
          generalize (((headW o).length + 2 : Nat) : Int) = at2 at *
          generalize Txt.join " " (wordsW o) = line at *
          generalize (wordsW o).map D.str = L at *
          generalize Txt.join " " (headW o ++ tailW o (some 0)) = line2 at *
          generalize (headW o ++ tailW o (some 0)).map D.str = L2 at *
          generalize (headW o ++ [("at" : Str), numS o.at_]).map D.str = A at *
          generalize (optW "by" o.latest ++ behW o.behind).map D.str = B at *
          generalize o.d = OD at *
          generalize askOf o = AD at *
          simp [c1, c2, a1, a2, jk, rk2, sk]
        refine ⟨some (1, WD (wordsW o)), some (0, .int (((headW o).length + 2 : Nat) : Int)), ?_⟩
        rw [run_if, test]
        show (sSeq _ (sSeq _ _)) [some (0, d0), some (0, .int c), some (0, o.d), some (0, .str (Txt.join " " (wordsW o))), some (0, .str (Txt.join " " (wordsW o))), x5, x6] = _
        rw [seq_nx s5, seq_nx s6, s7]
    obtain ⟨z5, z6, fin⟩ := fin
    obtain ⟨y1, y2, y3, y4, y5, y6, ih⟩ := bodyL d0 cs (some (0, .int c)) (some (0, o.d)) (some (0, .str (Txt.join " " (wordsW o)))) (some (0, .str (Txt.join " " (wordsW o)))) z5 z6
    refine ⟨y1, y2, y3, y4, y5, y6, Eq.trans (forL_nx (bind_st (by simp) rfl) (ρ2 := [some (0, d0), some (0, .int c), some (0, o.d), some (0, .str (Txt.join " " (wordsW o))), some (0, .str (Txt.join " " (wordsW o))), z5, z6]) ?_) ih⟩
    show (sSeq _ _) [some (0, d0), some (0, .int c), x2, x3, x4, x5, x6] = _
    rw [seq_nx e2', seq_nx e3', seq_nx e4', seq_nx e5', fin]
theorem law_true : ∀ ns : List Int, ns.length ≤ 63 → ∃ os, runFn c_law [pureV (.frl (ns.map .int))] = .ok (pureV (.bl true)) os := fun ns hl => by
  have c41 : F__law_cell_at [pureV (.frl (ns.map .int)), pureV (.int 41)] = _ := F_cell_at ns 41
  have c0 : F__law_cell_at [pureV (.frl (ns.map .int)), pureV (.int 0)] = _ := F_cell_at ns 0
  have mb := many_behind_k (cellAt ns 41)
  have fs : F__law_stream [pureV (.int (cellAt ns 0)), pureV (.int 3)] = _ := F_stream (cellAt ns 0) 3 (by decide)
  have hsl := stream_len (cellAt ns 0) 3
  generalize stream (cellAt ns 0) 3 = ss at fs hsl
  have cut : cutD (ns.map D.int) none (some 40) = (ns.take 40).map D.int := by
    have : cutD (ns.map D.int) none (some ((40 : Nat) : Int)) = (ns.map D.int).take 40 := cutD_to _ 40
    rw [show ((40 : Nat) : Int) = 40 by rfl] at this
    rw [this, List.map_take]
  have ad := add_k (xs := ss.map D.int) (ys := (ns.take 40).map D.int) (b := false) (b' := false) (Nat.le_of_lt (big1000 (by simp; omega)))
  rw [← List.map_append] at ad
  obtain ⟨y1, y2, y3, y4, y5, y6, e⟩ := bodyL (.frl (ns.map .int)) (ss ++ ns.take 40) none none none none none none
  refine ⟨[none], ?_⟩
  generalize cellAt ns 0 = n0 at *
  generalize cellAt ns 41 = n41 at *
  generalize (ss ++ ns.take 40).map D.int = L at *
  generalize ss.map D.int = SS at *
  generalize (ns.take 40).map D.int = NN at *
  have it : (iA (e2 true oAdd (eCall F__law_stream [] [.ev (eCall F__law_cell_at [] [.ev (eUse 0), .ev (eC (.int 0))]), .ev (eC (.int 3))]) (eSlc (eVar 0) none (some (eC (.int 40)))))) [some (0, .frl (ns.map .int)), none, none, none, none, none, none] = .ok L ⟨1, false, .lst L⟩ [some (0, .frl (ns.map .int)), none, none, none, none, none, none] := by
    simp [-List.map_map, c0, fs, cut, ad]
  have p1 := Eq.trans (show sFor (.nm 1) (iA (e2 true oAdd (eCall F__law_stream [] [.ev (eCall F__law_cell_at [] [.ev (eUse 0), .ev (eC (.int 0))]), .ev (eC (.int 3))]) (eSlc (eVar 0) none (some (eC (.int 40)))))) _ [some (0, .frl (ns.map .int)), none, none, none, none, none, none] = forL _ _ _ _ by rw [run_for, it]; rfl) e
  unfold runFn c_law
  simp [-run_for, enter, c41, mb, p1]
end Pd
end
section
namespace Pd
open PySem PySem.Spec PyProof.Rows L2
def top (i : Nat) : Stmt := PySem.Challenge.pw_armswing_k73_lines_read.main.body.getD i (.Pass ⟨0, 0, 0, 0⟩)
def d_AskUU_initUU : He.DefD := ⟨("Ask", some "__init__"), "__init__", "Ask.__init__", defArgs (inClass (top 5) 0), defBody (inClass (top 5) 0), defScope (inClass (top 5) 0), [], []⟩
def d_check : He.DefD := ⟨("check", none), "check", "check", defArgs (top 6), defBody (top 6), defScope (top 6), [], []⟩
def d_with_rest : He.DefD := ⟨("with_rest", none), "with_rest", "with_rest", defArgs (top 7), defBody (top 7), defScope (top 7), [], []⟩
def d_reading : He.DefD := ⟨("reading", none), "reading", "reading", defArgs (top 8), defBody (top 8), defScope (top 8), [.int 0, .non, .non], []⟩
def d_writing : He.DefD := ⟨("writing", none), "writing", "writing", defArgs (top 9), defBody (top 9), defScope (top 9), [.int 0, .non, .non, .bl false], []⟩
def d_resting : He.DefD := ⟨("resting", none), "resting", "resting", defArgs (top 10), defBody (top 10), defScope (top 10), [], []⟩
def d_shown : He.DefD := ⟨("shown", none), "shown", "shown", defArgs (top 13), defBody (top 13), defScope (top 13), [], []⟩
def d_number_in : He.DefD := ⟨("number_in", none), "number_in", "number_in", defArgs (top 14), defBody (top 14), defScope (top 14), [], []⟩
def d_numbers_till : He.DefD := ⟨("numbers_till", none), "numbers_till", "numbers_till", defArgs (top 15), defBody (top 15), defScope (top 15), [], []⟩
def d_after_word : He.DefD := ⟨("after_word", none), "after_word", "after_word", defArgs (top 16), defBody (top 16), defScope (top 16), [], []⟩
def d_read_tail : He.DefD := ⟨("read_tail", none), "read_tail", "read_tail", defArgs (top 17), defBody (top 17), defScope (top 17), [], []⟩
def d_read_line : He.DefD := ⟨("read_line", none), "read_line", "read_line", defArgs (top 18), defBody (top 18), defScope (top 18), [], []⟩
def d__law_cell_at : He.DefD := ⟨("_law_cell_at", none), "_law_cell_at", "_law_cell_at", defArgs (top 20), defBody (top 20), defScope (top 20), [], []⟩
def d__law_stream : He.DefD := ⟨("_law_stream", none), "_law_stream", "_law_stream", defArgs (top 21), defBody (top 21), defScope (top 21), [], []⟩
def d__law_drawn : He.DefD := ⟨("_law_drawn", none), "_law_drawn", "_law_drawn", defArgs (top 22), defBody (top 22), defScope (top 22), [], []⟩
def d__law_text : He.DefD := ⟨("_law_text", none), "_law_text", "_law_text", defArgs (top 23), defBody (top 23), defScope (top 23), [], []⟩
def d__law_whole : He.DefD := ⟨("_law_whole", none), "_law_whole", "_law_whole", defArgs (top 24), defBody (top 24), defScope (top 24), [], []⟩
def d__law_numbers : He.DefD := ⟨("_law_numbers", none), "_law_numbers", "_law_numbers", defArgs (top 25), defBody (top 25), defScope (top 25), [], []⟩
def d__law_same : He.DefD := ⟨("_law_same", none), "_law_same", "_law_same", defArgs (top 26), defBody (top 26), defScope (top 26), [], []⟩
def d__law_made : He.DefD := ⟨("_law_made", none), "_law_made", "_law_made", defArgs (top 27), defBody (top 27), defScope (top 27), [], []⟩
def d__law_many_behind_right : He.DefD := ⟨("_law_many_behind_right", none), "_law_many_behind_right", "_law_many_behind_right", defArgs (top 28), defBody (top 28), defScope (top 28), [], []⟩
def d_law : He.DefD := ⟨("law", none), "law", "law", defArgs (top 29), defBody (top 29), defScope (top 29), [], []⟩
def fn : List He.DefD := [d_AskUU_initUU, d_check, d_with_rest, d_reading, d_writing, d_resting, d_shown, d_number_in, d_numbers_till, d_after_word, d_read_tail, d_read_line, d__law_cell_at, d__law_stream, d__law_drawn, d__law_text, d__law_whole, d__law_numbers, d__law_same, d__law_made, d__law_many_behind_right, d_law]
def fa : List He.Fa := [.free "str", .free "len", .str "FIGURES" "0123456789", .free "int", .glo "number_in", .glo "after_word", .glo "numbers_till", .glo "check", .free "tuple", .mkr "Ask", .glo "Ask", .glo "with_rest", .glo "resting", .glo "read_tail", .glo "reading", .glo "writing", .free "isinstance", .free "bool", .glo "_law_whole", .glo "_law_numbers", .free "list", .free "range", .glo "_law_stream", .free "sorted", .free "set", .glo "_law_text", .glo "read_line", .glo "_law_same", .glo "_law_made", .glo "shown", .glo "_law_cell_at", .glo "_law_many_behind_right", .glo "_law_drawn", .cls "Ask", .noat "Ask" "kind", .noat "Ask" "first", .noat "Ask" "many", .noat "Ask" "marks", .noat "Ask" "at", .noat "Ask" "asker", .noat "Ask" "latest", .noat "Ask" "behind", .noat "Ask" "early", .glo "law"]
def ck : List Ck := []
variable {P : Program} {w : World} {K : PySem.W.Frag} {mg : Str → Option Value} {base : Heap}
theorem un1 {n : Nat} (h : n + 64 < cLine) : n + 1 < cLine := by omega
theorem vis_ok {X : Cx} {x : Str} (h : (decide (X.env.scope.names.lookup x = some .local) || (decide (X.env.scope.names.lookup x = some .cell) || decide (X.env.scope.names.lookup x = some .free))) = true) : Vis X.env.scope x := by
  simp only [Bool.or_eq_true, decide_eq_true_eq] at h
  exact h
theorem sa_w {X : Cx} {W : WX} {es : List Expr} {as : List Ar} (h : SA X W true es as) : SA X W false es as := h.weak
theorem pg_nm {X : Cx} {x : Str} {p : Pos} (i : Nat) (hN : X.N.Nodup) (hi : X.N[i]? = some x := by rfl) (hx : Loc X.env.scope x := by first | exact Or.inl rfl | exact Or.inr rfl) (hf : X.fn x = true ∨ X.env.scope.names.lookup x = some .local := by first | exact .inl rfl | exact .inr rfl) : PG X (.Name x p) (gName i) := pg_name hN hi hx hf
theorem FO (F : Fx fa ck fn K mg) : FldOk K ft := fld_ok (List.forall_mem_cons.mpr ⟨⟨F.cls 33, List.forall_mem_cons.mpr ⟨F.noat 34, List.forall_mem_cons.mpr ⟨F.noat 35, List.forall_mem_cons.mpr ⟨F.noat 36, List.forall_mem_cons.mpr ⟨F.noat 37, List.forall_mem_cons.mpr ⟨F.noat 38, List.forall_mem_cons.mpr ⟨F.noat 39, List.forall_mem_cons.mpr ⟨F.noat 40, List.forall_mem_cons.mpr ⟨F.noat 41, List.forall_mem_cons.mpr ⟨F.noat 42, List.forall_mem_nil _⟩⟩⟩⟩⟩⟩⟩⟩⟩⟩, List.forall_mem_nil _⟩)
theorem nd__law_text : (["one", "words", "mark", "number"] : List Str).Nodup := by decide +kernel
theorem sc__law_text : FnScope ["one", "words", "mark", "number"] ["one"] d__law_text.scope := ⟨rfl, rfl, rfl, nd__law_text, rfl, by decide +kernel, by decide +kernel⟩
theorem sb__law_text (F : Fx fa ck fn K mg) (cdv : Value) (A : Around) (outer : List Env) (s : Shared) (H : Hp) (E : XK) (hr : Room 0 (A.deeper (envOfC d__law_text.qual d__law_text.scope s.heap.objs.size (He.fAd K d__law_text.at_) cdv))) :
    SB (cxOf (L2.CX P w) P w K mg base ["one", "words", "mark", "number"] d__law_text.qual d__law_text.scope (He.fAd K d__law_text.at_) cdv A outer s H E) (fun cls d _ H => E cls d H) (ioIx c__law_text.io) d__law_text.body c__law_text.body := by
  have tk : Takes (cxOf (L2.CX P w) P w K mg base ["one", "words", "mark", "number"] d__law_text.qual d__law_text.scope (He.fAd K d__law_text.at_) cdv A outer s H E) (fun cls d _ H => E cls d H) := takes_of rfl rfl rfl rfl
  exact sb_cons (ss_set (s := true) 1 (se_lst (s := true) (sa_ev (s := true) (sa := true) (sb := true) (se_idx (s := true) (sa := true) (sb := true) (se_var (s := true) 0) (se_int (s := true))) (sa_nil))) (hN := nd__law_text)) (sb_cons (ss_if (s := true) (st_cmp (s := true) (sa := true) (sb := true) (op_neD hr.units) ok_neD (se_idx (s := true) (sa := true) (sb := true) (se_var (s := true) 0) (se_int (s := true))) (se_str (s := true))) (sb_one (ss_append (sy := true) (sl_var 1) (se_t1 (s := true) (sa := true) call_str_int ok_strI (se_idx (s := true) (sa := true) (sb := true) (se_var (s := true) 0) (se_int (s := true))) (F.free 0) bt_str))) (sb_nil)) (sb_cons (ss_if (s := true) (st_cmp (s := true) (sa := true) (sb := true) (op_eqD hr.units) ok_eqD (se_idx (s := true) (sa := true) (sb := true) (se_var (s := true) 0) (se_int (s := true))) (se_str (s := true))) (sb_one (ss_append (sy := true) (sl_var 1) (se_t1 (s := true) (sa := true) call_str_int ok_strI (se_idx (s := true) (sa := true) (sb := true) (se_var (s := true) 0) (se_int (s := true))) (F.free 0) bt_str))) (sb_nil)) (sb_cons (ss_set (s := true) 1 (se_op (s := true) (sa := true) (sb := true) op_addA ok_add (se_op (s := true) (sa := true) (sb := true) op_addA ok_add (se_var (s := true) 1) (se_lc (s := true) (sa := true) (sb := true) (sc := true) (own := [("mark", 2)]) rfl nd__law_text (si_any (s := true) (se_idx (s := true) (sa := true) (sb := true) (se_var (s := true) 0) (se_int (s := true)))) (blk_ok (by kernel_rfl)) (fun _ _ _ _ _ => pgT_nm 2 nd__law_text) (fun _ _ _ _ _ => pts_yes) (fun _ _ _ _ _ => se_t1 (s := true) (sa := true) call_str_int ok_strI (se_var (s := true) 2) (F.free 0) bt_str))) (se_lst (s := true) (sa_ev (s := true) (sa := true) (sb := true) (se_str (s := true)) (sa_ev (s := true) (sa := true) (sb := true) (se_t1 (s := true) (sa := true) call_str_int ok_strI (se_idx (s := true) (sa := true) (sb := true) (se_var (s := true) 0) (se_int (s := true))) (F.free 0) bt_str) (sa_nil))))) (hN := nd__law_text)) (sb_cons (ss_if (s := true) (st_cmp (s := true) (sa := true) (sb := true) (op_neD hr.units) ok_neD (se_idx (s := true) (sa := true) (sb := true) (se_var (s := true) 0) (se_int (s := true))) (se_int (s := true))) (sb_one (ss_set (s := true) 1 (se_op (s := true) (sa := true) (sb := true) op_addA ok_add (se_var (s := true) 1) (se_lst (s := true) (sa_ev (s := true) (sa := true) (sb := true) (se_str (s := true)) (sa_ev (s := true) (sa := true) (sb := true) (se_t1 (s := true) (sa := true) call_str_int ok_strI (se_idx (s := true) (sa := true) (sb := true) (se_var (s := true) 0) (se_int (s := true))) (F.free 0) bt_str) (sa_nil))))) (hN := nd__law_text))) (sb_nil)) (sb_cons (ss_if (s := true) (st_cmp (s := true) (sa := true) (sb := true) op_notN ok_notN (se_idx (s := true) (sa := true) (sb := true) (se_var (s := true) 0) (se_int (s := true))) (se_non (s := true))) (sb_one (ss_set (s := true) 1 (se_op (s := true) (sa := true) (sb := true) op_addA ok_add (se_var (s := true) 1) (se_lst (s := true) (sa_ev (s := true) (sa := true) (sb := true) (se_str (s := true)) (sa_ev (s := true) (sa := true) (sb := true) (se_t1 (s := true) (sa := true) call_str_int ok_strI (se_idx (s := true) (sa := true) (sb := true) (se_var (s := true) 0) (se_int (s := true))) (F.free 0) bt_str) (sa_nil))))) (hN := nd__law_text))) (sb_nil)) (sb_cons (ss_if (s := true) (st_cmp (s := true) (sa := true) (sb := true) (op_neD hr.units) ok_neD (se_idx (s := true) (sa := true) (sb := true) (se_var (s := true) 0) (se_int (s := true))) (se_tup (s := true) (sa_nil))) (sb_one (ss_set (s := true) 1 (se_op (s := true) (sa := true) (sb := true) op_addA ok_add (se_op (s := true) (sa := true) (sb := true) op_addA ok_add (se_var (s := true) 1) (se_lst (s := true) (sa_ev (s := true) (sa := true) (sb := true) (se_str (s := true)) (sa_nil)))) (se_lc (s := true) (sa := true) (sb := true) (sc := true) (own := [("number", 3)]) rfl nd__law_text (si_any (s := true) (se_idx (s := true) (sa := true) (sb := true) (se_var (s := true) 0) (se_int (s := true)))) (blk_ok (by kernel_rfl)) (fun _ _ _ _ _ => pgT_nm 3 nd__law_text) (fun _ _ _ _ _ => pts_yes) (fun _ _ _ _ _ => se_t1 (s := true) (sa := true) call_str_int ok_strI (se_var (s := true) 3) (F.free 0) bt_str))) (hN := nd__law_text))) (sb_nil)) (sb_one (ss_ret (s := true) (se_join (s := true) (sa := true) (sb := true) (se_str (s := true)) (se_var (s := true) 1))))))))))
theorem ok__law_text (F : Fx fa ck fn K mg) : DefOk P w K mg base 1 (He.fAd K ("_law_text", none)) 1 [] F__law_text := by
  obtain ⟨fd, Fd⟩ := F.def_ 15 (d := d__law_text) rfl
  exact def_law (fc := c__law_text) Fd sc__law_text rfl rfl rfl rfl (bd0 rfl rfl Fd fun _ _ _ _ _ _ us hl => match us, hl with | [_], _ => rfl) fun cdv A outer s H E hr => sb__law_text F cdv A outer s H E hr
theorem nd_number_in : (["word", "sign"] : List Str).Nodup := by decide +kernel
theorem sc_number_in : FnScope ["word", "sign"] ["word"] d_number_in.scope := ⟨rfl, rfl, rfl, nd_number_in, rfl, by decide +kernel, by decide +kernel⟩
theorem sb_number_in (F : Fx fa ck fn K mg) (cdv : Value) (A : Around) (outer : List Env) (s : Shared) (H : Hp) (E : XK) (hr : Room 0 (A.deeper (envOfC d_number_in.qual d_number_in.scope s.heap.objs.size (He.fAd K d_number_in.at_) cdv))) :
    SB (cxOf (L2.CX P w) P w K mg base ["word", "sign"] d_number_in.qual d_number_in.scope (He.fAd K d_number_in.at_) cdv A outer s H E) (fun cls d _ H => E cls d H) (ioIx c_number_in.io) d_number_in.body c_number_in.body := by
  have tk : Takes (cxOf (L2.CX P w) P w K mg base ["word", "sign"] d_number_in.qual d_number_in.scope (He.fAd K d_number_in.at_) cdv A outer s H E) (fun cls d _ H => E cls d H) := takes_of rfl rfl rfl rfl
  exact sb_cons (ss_if (s := true) (SW.st (sw_or (s := true) (sa := true) (sb := true) (st_cmp (s := true) (sa := true) (sb := true) (op_eqD hr.units) ok_eqD (se_b1 (s := true) (sa := true) call_lenA ok_len (se_var (s := true) 0) (F.free 1) bt_len) (se_int (s := true))) (sw_or1 (s := true) (st_cmp (s := true) (sa := true) (sb := true) op_gt ok_gt (se_b1 (s := true) (sa := true) call_lenA ok_len (se_var (s := true) 0) (F.free 1) bt_len) (se_int (s := true)))))) (sb_one (ss_never)) (sb_nil)) (sb_cons (ss_for (s := true) (t := .nm 1) (passes_of rfl) rfl (si_str (s := true) (se_use (s := true) 0)) (pgT_nm 1 nd_number_in) (sb_one (ss_if (s := true) (st_cmp (s := true) (sa := true) (sb := true) op_notIn_sign ok_notSign (se_var (s := true) 1) (se_gstr (s := true) (F.gstr 2))) (sb_one (ss_never)) (sb_nil)))) (sb_cons (ss_if (s := true) (SW.st (sw_and (s := true) (sa := true) (sb := true) (st_cmp (s := true) (sa := true) (sb := true) (op_eqD hr.units) ok_eqD (se_idx (s := true) (sa := true) (sb := true) (se_var (s := true) 0) (se_int (s := true))) (se_str (s := true))) (sw_and1 (s := true) (st_cmp (s := true) (sa := true) (sb := true) op_gt ok_gt (se_b1 (s := true) (sa := true) call_lenA ok_len (se_var (s := true) 0) (F.free 1) bt_len) (se_int (s := true)))))) (sb_one (ss_never)) (sb_nil)) (sb_one (ss_ret (s := true) (se_t1 (s := true) (sa := true) call_int_str ok_intS (se_var (s := true) 0) (F.free 3) bt_int)))))
theorem ok_number_in (F : Fx fa ck fn K mg) : DefOk P w K mg base 1 (He.fAd K ("number_in", none)) 1 [] F_number_in := by
  obtain ⟨fd, Fd⟩ := F.def_ 7 (d := d_number_in) rfl
  exact def_law (fc := c_number_in) Fd sc_number_in rfl rfl rfl rfl (bd0 rfl rfl Fd fun _ _ _ _ _ _ us hl => match us, hl with | [_], _ => rfl) fun cdv A outer s H E hr => sb_number_in F cdv A outer s H E hr
theorem nd_numbers_till : (["words", "at", "stop", "found"] : List Str).Nodup := by decide +kernel
theorem sc_numbers_till : FnScope ["words", "at", "stop", "found"] ["words", "at", "stop"] d_numbers_till.scope := ⟨rfl, rfl, rfl, nd_numbers_till, rfl, by decide +kernel, by decide +kernel⟩
theorem sb_numbers_till (F : Fx fa ck fn K mg) (cdv : Value) (A : Around) (outer : List Env) (s : Shared) (H : Hp) (E : XK) (hr : Room 1 (A.deeper (envOfC d_numbers_till.qual d_numbers_till.scope s.heap.objs.size (He.fAd K d_numbers_till.at_) cdv))) :
    SB (cxOf (L2.CX P w) P w K mg base ["words", "at", "stop", "found"] d_numbers_till.qual d_numbers_till.scope (He.fAd K d_numbers_till.at_) cdv A outer s H E) (fun cls d _ H => E cls d H) (ioIx c_numbers_till.io) d_numbers_till.body c_numbers_till.body := by
  have tk : Takes (cxOf (L2.CX P w) P w K mg base ["words", "at", "stop", "found"] d_numbers_till.qual d_numbers_till.scope (He.fAd K d_numbers_till.at_) cdv A outer s H E) (fun cls d _ H => E cls d H) := takes_of rfl rfl rfl rfl
  exact sb_cons (ss_set (s := true) 3 (se_lst (s := true) (sa_nil)) (hN := nd_numbers_till)) (sb_cons (ss_while (s := true) (passes_of rfl) (SW.st (sw_and (s := true) (sa := true) (sb := true) (st_cmp (s := true) (sa := true) (sb := true) op_lt ok_lt (se_var (s := true) 1) (se_b1 (s := true) (sa := true) call_lenA ok_len (se_var (s := true) 0) (F.free 1) bt_len)) (sw_and1 (s := true) (st_cmp (s := true) (sa := true) (sb := true) (op_neD hr.units) ok_neD (se_idx (s := true) (sa := true) (sb := true) (se_var (s := true) 0) (se_var (s := true) 1)) (se_var (s := true) 2))))) (sb_cons (ss_append (sy := false) (sl_var 3) (se_call ((ok_number_in F).callee (k := 1) (k' := 1) (dfl := []) 0) (F.glo 4) (ok_number_in (P := P) (w := w) (base := base) F).kp hr tk (sa_w (sa_ev (s := true) (sa := true) (sb := true) (se_idx (s := true) (sa := true) (sb := true) (se_var (s := true) 0) (se_var (s := true) 1)) (sa_nil))))) (sb_one (ss_set (s := true) 1 (se_op (s := true) (sa := true) (sb := true) op_addA ok_add (se_var (s := true) 1) (se_int (s := true))) (hN := nd_numbers_till))))) (sb_one (ss_ret (s := true) (se_tup (s := true) (sa_ev (s := true) (sa := true) (sb := true) (se_use (s := true) 3) (sa_ev (s := true) (sa := true) (sb := true) (se_use (s := true) 1) (sa_nil)))))))
theorem ok_numbers_till (F : Fx fa ck fn K mg) : DefOk P w K mg base 2 (He.fAd K ("numbers_till", none)) 3 [] F_numbers_till := by
  obtain ⟨fd, Fd⟩ := F.def_ 8 (d := d_numbers_till) rfl
  exact def_law (fc := c_numbers_till) Fd sc_numbers_till rfl rfl rfl rfl (bd0 rfl rfl Fd fun _ _ _ _ _ _ us hl => match us, hl with | [_, _, _], _ => rfl) fun cdv A outer s H E hr => sb_numbers_till F cdv A outer s H E hr
theorem nd_after_word : (["words", "at", "word", "other"] : List Str).Nodup := by decide +kernel
theorem sc_after_word : FnScope ["words", "at", "word", "other"] ["words", "at", "word", "other"] d_after_word.scope := ⟨rfl, rfl, rfl, nd_after_word, rfl, by decide +kernel, by decide +kernel⟩
theorem sb_after_word (F : Fx fa ck fn K mg) (cdv : Value) (A : Around) (outer : List Env) (s : Shared) (H : Hp) (E : XK) (hr : Room 1 (A.deeper (envOfC d_after_word.qual d_after_word.scope s.heap.objs.size (He.fAd K d_after_word.at_) cdv))) :
    SB (cxOf (L2.CX P w) P w K mg base ["words", "at", "word", "other"] d_after_word.qual d_after_word.scope (He.fAd K d_after_word.at_) cdv A outer s H E) (fun cls d _ H => E cls d H) (ioIx c_after_word.io) d_after_word.body c_after_word.body := by
  have tk : Takes (cxOf (L2.CX P w) P w K mg base ["words", "at", "word", "other"] d_after_word.qual d_after_word.scope (He.fAd K d_after_word.at_) cdv A outer s H E) (fun cls d _ H => E cls d H) := takes_of rfl rfl rfl rfl
  exact sb_cons (ss_if (s := true) (SW.st (sw_and (s := true) (sa := true) (sb := true) (st_cmp (s := true) (sa := true) (sb := true) op_lt ok_lt (se_var (s := true) 1) (se_b1 (s := true) (sa := true) call_lenA ok_len (se_var (s := true) 0) (F.free 1) bt_len)) (sw_and1 (s := true) (st_cmp (s := true) (sa := true) (sb := true) (op_eqD hr.units) ok_eqD (se_idx (s := true) (sa := true) (sb := true) (se_var (s := true) 0) (se_var (s := true) 1)) (se_var (s := true) 2))))) (sb_cons (ss_if (s := true) (st_cmp (s := true) (sa := true) (sb := true) (op_eqD hr.units) ok_eqD (se_op (s := true) (sa := true) (sb := true) op_addA ok_add (se_var (s := true) 1) (se_int (s := true))) (se_b1 (s := true) (sa := true) call_lenA ok_len (se_var (s := true) 0) (F.free 1) bt_len)) (sb_one (ss_never)) (sb_nil)) (sb_one (ss_ret (s := false) (se_tup (s := false) (sa_ev (s := false) (sa := false) (sb := true) (se_call ((ok_number_in F).callee (k := 1) (k' := 1) (dfl := []) 0) (F.glo 4) (ok_number_in (P := P) (w := w) (base := base) F).kp hr tk (sa_w (sa_ev (s := true) (sa := true) (sb := true) (se_idx (s := true) (sa := true) (sb := true) (se_var (s := true) 0) (se_op (s := true) (sa := true) (sb := true) op_addA ok_add (se_var (s := true) 1) (se_int (s := true)))) (sa_nil)))) (sa_ev (s := true) (sa := true) (sb := true) (se_op (s := true) (sa := true) (sb := true) op_addA ok_add (se_var (s := true) 1) (se_int (s := true))) (sa_nil))))))) (sb_nil)) (sb_one (ss_ret (s := true) (se_tup (s := true) (sa_ev (s := true) (sa := true) (sb := true) (se_use (s := true) 3) (sa_ev (s := true) (sa := true) (sb := true) (se_use (s := true) 1) (sa_nil))))))
theorem ok_after_word (F : Fx fa ck fn K mg) : DefOk P w K mg base 2 (He.fAd K ("after_word", none)) 4 [] F_after_word := by
  obtain ⟨fd, Fd⟩ := F.def_ 9 (d := d_after_word) rfl
  exact def_law (fc := c_after_word) Fd sc_after_word rfl rfl rfl rfl (bd0 rfl rfl Fd fun _ _ _ _ _ _ us hl => match us, hl with | [_, _, _, _], _ => rfl) fun cdv A outer s H E hr => sb_after_word F cdv A outer s H E hr
theorem nd_read_tail : (["words", "at", "beat", "asker", "latest", "behind"] : List Str).Nodup := by decide +kernel
theorem sc_read_tail : FnScope ["words", "at", "beat", "asker", "latest", "behind"] ["words", "at"] d_read_tail.scope := ⟨rfl, rfl, rfl, nd_read_tail, rfl, by decide +kernel, by decide +kernel⟩
theorem sb_read_tail (F : Fx fa ck fn K mg) (cdv : Value) (A : Around) (outer : List Env) (s : Shared) (H : Hp) (E : XK) (hr : Room 2 (A.deeper (envOfC d_read_tail.qual d_read_tail.scope s.heap.objs.size (He.fAd K d_read_tail.at_) cdv))) :
    SB (cxOf (L2.CX P w) P w K mg base ["words", "at", "beat", "asker", "latest", "behind"] d_read_tail.qual d_read_tail.scope (He.fAd K d_read_tail.at_) cdv A outer s H E) (fun cls d _ H => E cls d H) (ioIx c_read_tail.io) d_read_tail.body c_read_tail.body := by
  have tk : Takes (cxOf (L2.CX P w) P w K mg base ["words", "at", "beat", "asker", "latest", "behind"] d_read_tail.qual d_read_tail.scope (He.fAd K d_read_tail.at_) cdv A outer s H E) (fun cls d _ H => E cls d H) := takes_of rfl rfl rfl rfl
  exact sb_cons (ss_if (s := true) (st_cmp (s := true) (sa := true) (sb := true) op_ge ok_ge (se_var (s := true) 1) (se_b1 (s := true) (sa := true) call_lenA ok_len (se_var (s := true) 0) (F.free 1) bt_len)) (sb_one (ss_never)) (sb_nil)) (sb_cons (ss_tup (s := false) [2, 1] rfl (se_call ((ok_after_word F).callee (k := 2) (k' := 2) (dfl := []) 0) (F.glo 5) (ok_after_word (P := P) (w := w) (base := base) F).kp hr tk (sa_w (sa_ev (s := true) (sa := true) (sb := true) (se_use (s := true) 0) (sa_ev (s := true) (sa := true) (sb := true) (se_use (s := true) 1) (sa_ev (s := true) (sa := true) (sb := true) (se_str (s := true)) (sa_ev (s := true) (sa := true) (sb := true) (se_non (s := true)) (sa_nil))))))) (pgs_cons (pg_nm 2 nd_read_tail) (pgs_cons (pg_nm 1 nd_read_tail) (pgs_nil)))) (sb_cons (ss_tup (s := false) [3, 1] rfl (se_call ((ok_after_word F).callee (k := 2) (k' := 2) (dfl := []) 0) (F.glo 5) (ok_after_word (P := P) (w := w) (base := base) F).kp hr tk (sa_w (sa_ev (s := true) (sa := true) (sb := true) (se_use (s := true) 0) (sa_ev (s := true) (sa := true) (sb := true) (se_use (s := true) 1) (sa_ev (s := true) (sa := true) (sb := true) (se_str (s := true)) (sa_ev (s := true) (sa := true) (sb := true) (se_int (s := true)) (sa_nil))))))) (pgs_cons (pg_nm 3 nd_read_tail) (pgs_cons (pg_nm 1 nd_read_tail) (pgs_nil)))) (sb_cons (ss_tup (s := false) [4, 1] rfl (se_call ((ok_after_word F).callee (k := 2) (k' := 2) (dfl := []) 0) (F.glo 5) (ok_after_word (P := P) (w := w) (base := base) F).kp hr tk (sa_w (sa_ev (s := true) (sa := true) (sb := true) (se_use (s := true) 0) (sa_ev (s := true) (sa := true) (sb := true) (se_use (s := true) 1) (sa_ev (s := true) (sa := true) (sb := true) (se_str (s := true)) (sa_ev (s := true) (sa := true) (sb := true) (se_non (s := true)) (sa_nil))))))) (pgs_cons (pg_nm 4 nd_read_tail) (pgs_cons (pg_nm 1 nd_read_tail) (pgs_nil)))) (sb_cons (ss_set (s := true) 5 (se_lst (s := true) (sa_nil)) (hN := nd_read_tail)) (sb_cons (ss_if (s := true) (st_cmp (s := true) (sa := true) (sb := true) op_lt ok_lt (se_var (s := true) 1) (se_b1 (s := true) (sa := true) call_lenA ok_len (se_var (s := true) 0) (F.free 1) bt_len)) (sb_cons (ss_if (s := true) (SW.st (sw_or (s := true) (sa := true) (sb := true) (st_cmp (s := true) (sa := true) (sb := true) (op_neD hr.units) ok_neD (se_idx (s := true) (sa := true) (sb := true) (se_var (s := true) 0) (se_var (s := true) 1)) (se_str (s := true))) (sw_or1 (s := true) (st_cmp (s := true) (sa := true) (sb := true) (op_eqD hr.units) ok_eqD (se_op (s := true) (sa := true) (sb := true) op_addA ok_add (se_var (s := true) 1) (se_int (s := true))) (se_b1 (s := true) (sa := true) call_lenA ok_len (se_var (s := true) 0) (F.free 1) bt_len))))) (sb_one (ss_never)) (sb_nil)) (sb_cons (ss_set (s := false) 5 (se_idx (s := false) (sa := false) (sb := true) (se_call ((ok_numbers_till F).callee (k := 2) (k' := 2) (dfl := []) 0) (F.glo 6) (ok_numbers_till (P := P) (w := w) (base := base) F).kp hr tk (sa_w (sa_ev (s := true) (sa := true) (sb := true) (se_use (s := true) 0) (sa_ev (s := true) (sa := true) (sb := true) (se_op (s := true) (sa := true) (sb := true) op_addA ok_add (se_var (s := true) 1) (se_int (s := true))) (sa_ev (s := true) (sa := true) (sb := true) (se_str (s := true)) (sa_nil)))))) (se_int (s := true))) (hN := nd_read_tail)) (sb_one (ss_if (s := true) (st_cmp (s := true) (sa := true) (sb := true) op_lt ok_lt (se_b1 (s := true) (sa := true) call_lenA ok_len (se_var (s := true) 5) (F.free 1) bt_len) (se_op (s := true) (sa := true) (sb := true) op_sub ok_sub (se_op (s := true) (sa := true) (sb := true) op_sub ok_sub (se_b1 (s := true) (sa := true) call_lenA ok_len (se_var (s := true) 0) (F.free 1) bt_len) (se_var (s := true) 1)) (se_int (s := true)))) (sb_one (ss_never)) (sb_nil))))) (sb_nil)) (sb_one (ss_ret (s := true) (se_tup (s := true) (sa_ev (s := true) (sa := true) (sb := true) (se_use (s := true) 2) (sa_ev (s := true) (sa := true) (sb := true) (se_use (s := true) 3) (sa_ev (s := true) (sa := true) (sb := true) (se_use (s := true) 4) (sa_ev (s := true) (sa := true) (sb := true) (se_use (s := true) 5) (sa_nil)))))))))))))
theorem ok_read_tail (F : Fx fa ck fn K mg) : DefOk P w K mg base 3 (He.fAd K ("read_tail", none)) 2 [] F_read_tail := by
  obtain ⟨fd, Fd⟩ := F.def_ 10 (d := d_read_tail) rfl
  exact def_law (fc := c_read_tail) Fd sc_read_tail rfl rfl rfl rfl (bd0 rfl rfl Fd fun _ _ _ _ _ _ us hl => match us, hl with | [_, _], _ => rfl) fun cdv A outer s H E hr => sb_read_tail F cdv A outer s H E hr
theorem nd_check : (["number", "most"] : List Str).Nodup := by decide +kernel
theorem sc_check : FnScope ["number", "most"] ["number", "most"] d_check.scope := ⟨rfl, rfl, rfl, nd_check, rfl, by decide +kernel, by decide +kernel⟩
theorem sb_check (F : Fx fa ck fn K mg) (cdv : Value) (A : Around) (outer : List Env) (s : Shared) (H : Hp) (E : XK) (hr : Room 0 (A.deeper (envOfC d_check.qual d_check.scope s.heap.objs.size (He.fAd K d_check.at_) cdv))) :
    SB (cxOf (L2.CX P w) P w K mg base ["number", "most"] d_check.qual d_check.scope (He.fAd K d_check.at_) cdv A outer s H E) (fun cls d _ H => E cls d H) (ioIx c_check.io) d_check.body c_check.body := by
  have tk : Takes (cxOf (L2.CX P w) P w K mg base ["number", "most"] d_check.qual d_check.scope (He.fAd K d_check.at_) cdv A outer s H E) (fun cls d _ H => E cls d H) := takes_of rfl rfl rfl rfl
  exact sb_one (ss_if (s := true) (st_not (s := true) (st_chain (s := true) (sa := true) (sb := true) (sc := true) op_le op_le (se_int (s := true)) (se_var (s := true) 0) (se_var (s := true) 1))) (sb_one (ss_never)) (sb_nil))
theorem ok_check (F : Fx fa ck fn K mg) : DefOk P w K mg base 1 (He.fAd K ("check", none)) 2 [] F_check := by
  obtain ⟨fd, Fd⟩ := F.def_ 1 (d := d_check) rfl
  exact def_law (fc := c_check) Fd sc_check rfl rfl rfl rfl (bd0 rfl rfl Fd fun _ _ _ _ _ _ us hl => match us, hl with | [_, _], _ => rfl) fun cdv A outer s H E hr => sb_check F cdv A outer s H E hr
theorem nd_with_rest : (["ask", "asker", "latest", "behind", "last", "number"] : List Str).Nodup := by decide +kernel
theorem sc_with_rest : FnScope ["ask", "asker", "latest", "behind", "last", "number"] ["ask", "asker", "latest", "behind"] d_with_rest.scope := ⟨rfl, rfl, rfl, nd_with_rest, rfl, by decide +kernel, by decide +kernel⟩
theorem sb_with_rest (F : Fx fa ck fn K mg) (cdv : Value) (A : Around) (outer : List Env) (s : Shared) (H : Hp) (E : XK) (hr : Room 1 (A.deeper (envOfC d_with_rest.qual d_with_rest.scope s.heap.objs.size (He.fAd K d_with_rest.at_) cdv))) :
    SB (cxOf (L2.CX P w) P w K mg base ["ask", "asker", "latest", "behind", "last", "number"] d_with_rest.qual d_with_rest.scope (He.fAd K d_with_rest.at_) cdv A outer s H E) (fun cls d _ H => E cls d H) (ioIx c_with_rest.io) d_with_rest.body c_with_rest.body := by
  have tk : Takes (cxOf (L2.CX P w) P w K mg base ["ask", "asker", "latest", "behind", "last", "number"] d_with_rest.qual d_with_rest.scope (He.fAd K d_with_rest.at_) cdv A outer s H E) (fun cls d _ H => E cls d H) := takes_of rfl rfl rfl rfl
  exact sb_cons (ss_expr (s := false) (se_call ((ok_check F).callee (k := 1) (k' := 1) (dfl := []) 0) (F.glo 7) (ok_check (P := P) (w := w) (base := base) F).kp hr tk (sa_w (sa_ev (s := true) (sa := true) (sb := true) (se_fld (s := true) (FO F) .n_first (se_var (s := true) 0)) (sa_ev (s := true) (sa := true) (sb := true) (se_op (s := true) (sa := true) (sb := true) op_pow ok_pow (se_int (s := true)) (se_int (s := true))) (sa_nil)))))) (sb_cons (ss_expr (s := false) (se_call ((ok_check F).callee (k := 1) (k' := 1) (dfl := []) 0) (F.glo 7) (ok_check (P := P) (w := w) (base := base) F).kp hr tk (sa_w (sa_ev (s := true) (sa := true) (sb := true) (se_op (s := true) (sa := true) (sb := true) op_sub ok_sub (se_fld (s := true) (FO F) .n_many (se_var (s := true) 0)) (se_int (s := true))) (sa_ev (s := true) (sa := true) (sb := true) (se_int (s := true)) (sa_nil)))))) (sb_cons (ss_expr (s := false) (se_call ((ok_check F).callee (k := 1) (k' := 1) (dfl := []) 0) (F.glo 7) (ok_check (P := P) (w := w) (base := base) F).kp hr tk (sa_w (sa_ev (s := true) (sa := true) (sb := true) (se_fld (s := true) (FO F) .n_at (se_var (s := true) 0)) (sa_ev (s := true) (sa := true) (sb := true) (se_op (s := true) (sa := true) (sb := true) op_pow ok_pow (se_int (s := true)) (se_int (s := true))) (sa_nil)))))) (sb_cons (ss_expr (s := false) (se_call ((ok_check F).callee (k := 1) (k' := 1) (dfl := []) 0) (F.glo 7) (ok_check (P := P) (w := w) (base := base) F).kp hr tk (sa_w (sa_ev (s := true) (sa := true) (sb := true) (se_use (s := true) 1) (sa_ev (s := true) (sa := true) (sb := true) (se_int (s := true)) (sa_nil)))))) (sb_cons (ss_if (s := true) (st_cmp (s := true) (sa := true) (sb := true) op_notN ok_notN (se_var (s := true) 2) (se_non (s := true))) (sb_one (ss_expr (s := false) (se_call ((ok_check F).callee (k := 1) (k' := 1) (dfl := []) 0) (F.glo 7) (ok_check (P := P) (w := w) (base := base) F).kp hr tk (sa_w (sa_ev (s := true) (sa := true) (sb := true) (se_use (s := true) 2) (sa_ev (s := true) (sa := true) (sb := true) (se_op (s := true) (sa := true) (sb := true) op_pow ok_pow (se_int (s := true)) (se_int (s := true))) (sa_nil))))))) (sb_nil)) (sb_cons (ss_if (s := true) (st_cmp (s := true) (sa := true) (sb := true) op_isN ok_isN (se_var (s := true) 3) (se_non (s := true))) (sb_one (ss_set (s := true) 3 (se_tup (s := true) (sa_nil)) (hN := nd_with_rest))) (sb_nil)) (sb_cons (ss_set (s := true) 4 (se_neg (s := true) (sa := true) (se_int (s := true))) (hN := nd_with_rest)) (sb_cons (ss_for (s := true) (t := .nm 5) (passes_of rfl) rfl (si_any (s := true) (se_use (s := true) 3)) (pgT_nm 5 nd_with_rest) (sb_cons (ss_expr (s := false) (se_call ((ok_check F).callee (k := 1) (k' := 1) (dfl := []) 0) (F.glo 7) (ok_check (P := P) (w := w) (base := base) F).kp hr tk (sa_w (sa_ev (s := true) (sa := true) (sb := true) (se_use (s := true) 5) (sa_ev (s := true) (sa := true) (sb := true) (se_int (s := true)) (sa_nil)))))) (sb_cons (ss_if (s := true) (st_cmp (s := true) (sa := true) (sb := true) op_le ok_le (se_var (s := true) 5) (se_var (s := true) 4)) (sb_one (ss_never)) (sb_nil)) (sb_one (ss_set (s := true) 4 (se_use (s := true) 5) (hN := nd_with_rest)))))) (sb_cons (ss_fld (s := true) (FO F) 0 .n_asker (se_use (s := true) 1)) (sb_cons (ss_fld (s := true) (FO F) 0 .n_latest (se_use (s := true) 2)) (sb_cons (ss_fld (s := true) (FO F) 0 .n_behind (se_t1 (s := true) (sa := true) call_tuple_of ok_tuple (se_var (s := true) 3) (F.free 8) bt_tuple)) (sb_one (ss_ret (s := true) (se_mv (s := true) 0)))))))))))))
theorem ok_with_rest (F : Fx fa ck fn K mg) : DefOk P w K mg base 2 (He.fAd K ("with_rest", none)) 4 [] F_with_rest := by
  obtain ⟨fd, Fd⟩ := F.def_ 2 (d := d_with_rest) rfl
  exact def_law (fc := c_with_rest) Fd sc_with_rest rfl rfl rfl rfl (bd0 rfl rfl Fd fun _ _ _ _ _ _ us hl => match us, hl with | [_, _, _, _], _ => rfl) fun cdv A outer s H E hr => sb_with_rest F cdv A outer s H E hr
theorem nd_AskUU_initUU : (["self", "kind", "first", "many", "marks", "at"] : List Str).Nodup := by decide +kernel
theorem sc_AskUU_initUU : FnScope ["self", "kind", "first", "many", "marks", "at"] ["self", "kind", "first", "many", "marks", "at"] d_AskUU_initUU.scope := ⟨rfl, rfl, rfl, nd_AskUU_initUU, rfl, by decide +kernel, by decide +kernel⟩
theorem sb_AskUU_initUU (F : Fx fa ck fn K mg) (cdv : Value) (A : Around) (outer : List Env) (s : Shared) (H : Hp) (E : XK) (hr : Room 0 (A.deeper (envOfC d_AskUU_initUU.qual d_AskUU_initUU.scope s.heap.objs.size (He.fAd K d_AskUU_initUU.at_) cdv))) :
    SB (cxOf (L2.CX P w) P w K mg base ["self", "kind", "first", "many", "marks", "at"] d_AskUU_initUU.qual d_AskUU_initUU.scope (He.fAd K d_AskUU_initUU.at_) cdv A outer s H E) (fun cls d _ H => E cls d H) (ioIx c_AskUU_initUU.io) d_AskUU_initUU.body c_AskUU_initUU.body := by
  have tk : Takes (cxOf (L2.CX P w) P w K mg base ["self", "kind", "first", "many", "marks", "at"] d_AskUU_initUU.qual d_AskUU_initUU.scope (He.fAd K d_AskUU_initUU.at_) cdv A outer s H E) (fun cls d _ H => E cls d H) := takes_of rfl rfl rfl rfl
  exact sb_cons (ss_fld (s := true) (FO F) 0 .n_kind (se_use (s := true) 1)) (sb_cons (ss_fld (s := true) (FO F) 0 .n_first (se_use (s := true) 2)) (sb_cons (ss_fld (s := true) (FO F) 0 .n_many (se_use (s := true) 3)) (sb_cons (ss_fld (s := true) (FO F) 0 .n_marks (se_use (s := true) 4)) (sb_cons (ss_fld (s := true) (FO F) 0 .n_at (se_use (s := true) 5)) (sb_cons (ss_fld (s := true) (FO F) 0 .n_asker (se_int (s := true))) (sb_cons (ss_fld (s := true) (FO F) 0 .n_latest (se_non (s := true))) (sb_cons (ss_fld (s := true) (FO F) 0 .n_behind (se_tup (s := true) (sa_nil))) (sb_one (ss_fld (s := true) (FO F) 0 .n_early (se_bl (s := true)))))))))))
theorem ok_AskUU_initUU (F : Fx fa ck fn K mg) : DefOk P w K mg base 1 (He.fAd K ("Ask", some "__init__")) 6 [] F_AskUU_initUU := by
  obtain ⟨fd, Fd⟩ := F.def_ 0 (d := d_AskUU_initUU) rfl
  exact def_law (fc := c_AskUU_initUU) Fd sc_AskUU_initUU rfl rfl rfl rfl (bd0 rfl rfl Fd fun _ _ _ _ _ _ us hl => match us, hl with | [_, _, _, _, _, _], _ => rfl) fun cdv A outer s H E hr => sb_AskUU_initUU F cdv A outer s H E hr
theorem nd_writing : (["first", "marks", "at", "asker", "latest", "behind", "early", "mark", "ask"] : List Str).Nodup := by decide +kernel
theorem sc_writing : FnScope ["first", "marks", "at", "asker", "latest", "behind", "early", "mark", "ask"] ["first", "marks", "at", "asker", "latest", "behind", "early"] d_writing.scope := ⟨rfl, rfl, rfl, nd_writing, rfl, by decide +kernel, by decide +kernel⟩
theorem sb_writing (F : Fx fa ck fn K mg) (cdv : Value) (A : Around) (outer : List Env) (s : Shared) (H : Hp) (E : XK) (hr : Room 2 (A.deeper (envOfC d_writing.qual d_writing.scope s.heap.objs.size (He.fAd K d_writing.at_) cdv))) :
    SB (cxOf (L2.CX P w) P w K mg base ["first", "marks", "at", "asker", "latest", "behind", "early", "mark", "ask"] d_writing.qual d_writing.scope (He.fAd K d_writing.at_) cdv A outer s H E) (fun cls d _ H => E cls d H) (ioIx c_writing.io) d_writing.body c_writing.body := by
  have tk : Takes (cxOf (L2.CX P w) P w K mg base ["first", "marks", "at", "asker", "latest", "behind", "early", "mark", "ask"] d_writing.qual d_writing.scope (He.fAd K d_writing.at_) cdv A outer s H E) (fun cls d _ H => E cls d H) := takes_of rfl rfl rfl rfl
  exact sb_cons (ss_for (s := true) (t := .nm 7) (passes_of rfl) rfl (si_any (s := true) (se_use (s := true) 1)) (pgT_nm 7 nd_writing) (sb_one (ss_expr (s := false) (se_call ((ok_check F).callee (k := 1) (k' := 2) (dfl := []) 0) (F.glo 7) (ok_check (P := P) (w := w) (base := base) F).kp hr tk (sa_w (sa_ev (s := true) (sa := true) (sb := true) (se_use (s := true) 7) (sa_ev (s := true) (sa := true) (sb := true) (se_op (s := true) (sa := true) (sb := true) op_pow ok_pow (se_int (s := true)) (se_int (s := true))) (sa_nil)))))))) (sb_cons (ss_set (s := false) 8 (se_call ((ok_with_rest F).callee (k := 2) (k' := 2) (dfl := []) 0) (F.glo 11) (ok_with_rest (P := P) (w := w) (base := base) F).kp hr tk (sa_ev (s := false) (sa := false) (sb := true) (se_make .n_Ask 0 (F.mkr 9) ((ok_AskUU_initUU F).callee (k := 1) (k' := 1) (dfl := []) 0) (F.glo 10) hr tk (sa_w (sa_ev (s := true) (sa := true) (sb := true) (se_str (s := true)) (sa_ev (s := true) (sa := true) (sb := true) (se_use (s := true) 0) (sa_ev (s := true) (sa := true) (sb := true) (se_b1 (s := true) (sa := true) call_lenA ok_len (se_var (s := true) 1) (F.free 1) bt_len) (sa_ev (s := true) (sa := true) (sb := true) (se_t1 (s := true) (sa := true) call_tuple_of ok_tuple (se_var (s := true) 1) (F.free 8) bt_tuple) (sa_ev (s := true) (sa := true) (sb := true) (se_use (s := true) 2) (sa_nil)))))))) (sa_ev (s := true) (sa := true) (sb := true) (se_use (s := true) 3) (sa_ev (s := true) (sa := true) (sb := true) (se_use (s := true) 4) (sa_ev (s := true) (sa := true) (sb := true) (se_use (s := true) 5) (sa_nil)))))) (hN := nd_writing)) (sb_cons (ss_fld (s := true) (FO F) 8 .n_early (se_use (s := true) 6)) (sb_one (ss_ret (s := true) (se_mv (s := true) 8)))))
theorem ok_writing (F : Fx fa ck fn K mg) : DefOk P w K mg base 3 (He.fAd K ("writing", none)) 7 [.int 0, .non, .non, .bl false] F_writing := by
  obtain ⟨fd, Fd⟩ := F.def_ 4 (d := d_writing) rfl
  refine def_law (fc := c_writing) Fd sc_writing rfl rfl rfl rfl (fun j hj => ?_) fun cdv A outer s H E hr => sb_writing F cdv A outer s H E hr
  have hj : j ≤ 4 := hj
  obtain rfl | rfl | rfl | rfl | rfl : j = 0 ∨ j = 1 ∨ j = 2 ∨ j = 3 ∨ j = 4 := by omega
  · exact Fd.binds1 3 0 (by intro h; cases h) rfl fun T kV doc pm an cdv ct us its h1 h2 => match us, its, h1, h2 with | [_, _, _], [_, _, _, _], _, _ => ⟨_, rfl, rfl⟩
  · exact Fd.binds1 4 1 (by intro h; cases h) rfl fun T kV doc pm an cdv ct us its h1 h2 => match us, its, h1, h2 with | [_, _, _, _], [_, _, _, _], _, _ => ⟨_, rfl, rfl⟩
  · exact Fd.binds1 5 2 (by intro h; cases h) rfl fun T kV doc pm an cdv ct us its h1 h2 => match us, its, h1, h2 with | [_, _, _, _, _], [_, _, _, _], _, _ => ⟨_, rfl, rfl⟩
  · exact Fd.binds1 6 3 (by intro h; cases h) rfl fun T kV doc pm an cdv ct us its h1 h2 => match us, its, h1, h2 with | [_, _, _, _, _, _], [_, _, _, _], _, _ => ⟨_, rfl, rfl⟩
  · exact Fd.binds1 7 4 (by intro h; cases h) rfl fun T kV doc pm an cdv ct us its h1 h2 => match us, its, h1, h2 with | [_, _, _, _, _, _, _], [_, _, _, _], _, _ => ⟨_, rfl, rfl⟩
theorem nd_resting : (["at"] : List Str).Nodup := by decide +kernel
theorem sc_resting : FnScope ["at"] ["at"] d_resting.scope := ⟨rfl, rfl, rfl, nd_resting, rfl, by decide +kernel, by decide +kernel⟩
theorem sb_resting (F : Fx fa ck fn K mg) (cdv : Value) (A : Around) (outer : List Env) (s : Shared) (H : Hp) (E : XK) (hr : Room 2 (A.deeper (envOfC d_resting.qual d_resting.scope s.heap.objs.size (He.fAd K d_resting.at_) cdv))) :
    SB (cxOf (L2.CX P w) P w K mg base ["at"] d_resting.qual d_resting.scope (He.fAd K d_resting.at_) cdv A outer s H E) (fun cls d _ H => E cls d H) (ioIx c_resting.io) d_resting.body c_resting.body := by
  have tk : Takes (cxOf (L2.CX P w) P w K mg base ["at"] d_resting.qual d_resting.scope (He.fAd K d_resting.at_) cdv A outer s H E) (fun cls d _ H => E cls d H) := takes_of rfl rfl rfl rfl
  exact sb_cons (ss_expr (s := false) (se_call ((ok_check F).callee (k := 1) (k' := 2) (dfl := []) 0) (F.glo 7) (ok_check (P := P) (w := w) (base := base) F).kp hr tk (sa_w (sa_ev (s := true) (sa := true) (sb := true) (se_use (s := true) 0) (sa_ev (s := true) (sa := true) (sb := true) (se_op (s := true) (sa := true) (sb := true) op_pow ok_pow (se_int (s := true)) (se_int (s := true))) (sa_nil)))))) (sb_one (ss_ret (s := false) (se_make .n_Ask 0 (F.mkr 9) ((ok_AskUU_initUU F).callee (k := 1) (k' := 1) (dfl := []) 0) (F.glo 10) hr tk (sa_w (sa_ev (s := true) (sa := true) (sb := true) (se_str (s := true)) (sa_ev (s := true) (sa := true) (sb := true) (se_int (s := true)) (sa_ev (s := true) (sa := true) (sb := true) (se_int (s := true)) (sa_ev (s := true) (sa := true) (sb := true) (se_tup (s := true) (sa_nil)) (sa_ev (s := true) (sa := true) (sb := true) (se_use (s := true) 0) (sa_nil))))))))))
theorem ok_resting (F : Fx fa ck fn K mg) : DefOk P w K mg base 3 (He.fAd K ("resting", none)) 1 [] F_resting := by
  obtain ⟨fd, Fd⟩ := F.def_ 5 (d := d_resting) rfl
  exact def_law (fc := c_resting) Fd sc_resting rfl rfl rfl rfl (bd0 rfl rfl Fd fun _ _ _ _ _ _ us hl => match us, hl with | [_], _ => rfl) fun cdv A outer s H E hr => sb_resting F cdv A outer s H E hr
theorem nd_reading : (["first", "many", "at", "asker", "latest", "behind"] : List Str).Nodup := by decide +kernel
theorem sc_reading : FnScope ["first", "many", "at", "asker", "latest", "behind"] ["first", "many", "at", "asker", "latest", "behind"] d_reading.scope := ⟨rfl, rfl, rfl, nd_reading, rfl, by decide +kernel, by decide +kernel⟩
theorem sb_reading (F : Fx fa ck fn K mg) (cdv : Value) (A : Around) (outer : List Env) (s : Shared) (H : Hp) (E : XK) (hr : Room 2 (A.deeper (envOfC d_reading.qual d_reading.scope s.heap.objs.size (He.fAd K d_reading.at_) cdv))) :
    SB (cxOf (L2.CX P w) P w K mg base ["first", "many", "at", "asker", "latest", "behind"] d_reading.qual d_reading.scope (He.fAd K d_reading.at_) cdv A outer s H E) (fun cls d _ H => E cls d H) (ioIx c_reading.io) d_reading.body c_reading.body := by
  have tk : Takes (cxOf (L2.CX P w) P w K mg base ["first", "many", "at", "asker", "latest", "behind"] d_reading.qual d_reading.scope (He.fAd K d_reading.at_) cdv A outer s H E) (fun cls d _ H => E cls d H) := takes_of rfl rfl rfl rfl
  exact sb_one (ss_ret (s := false) (se_call ((ok_with_rest F).callee (k := 2) (k' := 2) (dfl := []) 0) (F.glo 11) (ok_with_rest (P := P) (w := w) (base := base) F).kp hr tk (sa_ev (s := false) (sa := false) (sb := true) (se_make .n_Ask 0 (F.mkr 9) ((ok_AskUU_initUU F).callee (k := 1) (k' := 1) (dfl := []) 0) (F.glo 10) hr tk (sa_w (sa_ev (s := true) (sa := true) (sb := true) (se_str (s := true)) (sa_ev (s := true) (sa := true) (sb := true) (se_use (s := true) 0) (sa_ev (s := true) (sa := true) (sb := true) (se_use (s := true) 1) (sa_ev (s := true) (sa := true) (sb := true) (se_tup (s := true) (sa_nil)) (sa_ev (s := true) (sa := true) (sb := true) (se_use (s := true) 2) (sa_nil)))))))) (sa_ev (s := true) (sa := true) (sb := true) (se_use (s := true) 3) (sa_ev (s := true) (sa := true) (sb := true) (se_use (s := true) 4) (sa_ev (s := true) (sa := true) (sb := true) (se_use (s := true) 5) (sa_nil)))))))
theorem ok_reading (F : Fx fa ck fn K mg) : DefOk P w K mg base 3 (He.fAd K ("reading", none)) 6 [.int 0, .non, .non] F_reading := by
  obtain ⟨fd, Fd⟩ := F.def_ 3 (d := d_reading) rfl
  refine def_law (fc := c_reading) Fd sc_reading rfl rfl rfl rfl (fun j hj => ?_) fun cdv A outer s H E hr => sb_reading F cdv A outer s H E hr
  have hj : j ≤ 3 := hj
  obtain rfl | rfl | rfl | rfl : j = 0 ∨ j = 1 ∨ j = 2 ∨ j = 3 := by omega
  · exact Fd.binds1 3 0 (by intro h; cases h) rfl fun T kV doc pm an cdv ct us its h1 h2 => match us, its, h1, h2 with | [_, _, _], [_, _, _], _, _ => ⟨_, rfl, rfl⟩
  · exact Fd.binds1 4 1 (by intro h; cases h) rfl fun T kV doc pm an cdv ct us its h1 h2 => match us, its, h1, h2 with | [_, _, _, _], [_, _, _], _, _ => ⟨_, rfl, rfl⟩
  · exact Fd.binds1 5 2 (by intro h; cases h) rfl fun T kV doc pm an cdv ct us its h1 h2 => match us, its, h1, h2 with | [_, _, _, _, _], [_, _, _], _, _ => ⟨_, rfl, rfl⟩
  · exact Fd.binds1 6 3 (by intro h; cases h) rfl fun T kV doc pm an cdv ct us its h1 h2 => match us, its, h1, h2 with | [_, _, _, _, _, _], [_, _, _], _, _ => ⟨_, rfl, rfl⟩
theorem nd_read_line : (["line", "words", "kind", "numbers", "at", "beat", "asker", "latest", "behind"] : List Str).Nodup := by decide +kernel
theorem sc_read_line : FnScope ["line", "words", "kind", "numbers", "at", "beat", "asker", "latest", "behind"] ["line"] d_read_line.scope := ⟨rfl, rfl, rfl, nd_read_line, rfl, by decide +kernel, by decide +kernel⟩
theorem sb_read_line (F : Fx fa ck fn K mg) (cdv : Value) (A : Around) (outer : List Env) (s : Shared) (H : Hp) (E : XK) (hr : Room 3 (A.deeper (envOfC d_read_line.qual d_read_line.scope s.heap.objs.size (He.fAd K d_read_line.at_) cdv))) :
    SB (cxOf (L2.CX P w) P w K mg base ["line", "words", "kind", "numbers", "at", "beat", "asker", "latest", "behind"] d_read_line.qual d_read_line.scope (He.fAd K d_read_line.at_) cdv A outer s H E) (fun cls d _ H => E cls d H) (ioIx c_read_line.io) d_read_line.body c_read_line.body := by
  have tk : Takes (cxOf (L2.CX P w) P w K mg base ["line", "words", "kind", "numbers", "at", "beat", "asker", "latest", "behind"] d_read_line.qual d_read_line.scope (He.fAd K d_read_line.at_) cdv A outer s H E) (fun cls d _ H => E cls d H) := takes_of rfl rfl rfl rfl
  exact sb_cons (ss_set (s := true) 1 (se_split (s := true) (sa := true) (sb := true) (se_var (s := true) 0) (se_str (s := true))) (hN := nd_read_line)) (sb_cons (ss_set (s := true) 2 (se_idx (s := true) (sa := true) (sb := true) (se_var (s := true) 1) (se_int (s := true))) (hN := nd_read_line)) (sb_cons (ss_if (s := true) (st_cmp (s := true) (sa := true) (sb := true) (op_eqD hr.units) ok_eqD (se_var (s := true) 2) (se_str (s := true))) (sb_cons (ss_if (s := true) (SW.st (sw_or (s := true) (sa := true) (sb := true) (st_cmp (s := true) (sa := true) (sb := true) (op_neD hr.units) ok_neD (se_b1 (s := true) (sa := true) call_lenA ok_len (se_var (s := true) 1) (F.free 1) bt_len) (se_int (s := true))) (sw_or1 (s := true) (st_cmp (s := true) (sa := true) (sb := true) (op_neD hr.units) ok_neD (se_idx (s := true) (sa := true) (sb := true) (se_var (s := true) 1) (se_int (s := true))) (se_str (s := true)))))) (sb_one (ss_never)) (sb_nil)) (sb_one (ss_ret (s := false) (se_call ((ok_resting F).callee (k := 3) (k' := 3) (dfl := []) 0) (F.glo 12) (ok_resting (P := P) (w := w) (base := base) F).kp hr tk (sa_ev (s := false) (sa := false) (sb := true) (se_call ((ok_number_in F).callee (k := 1) (k' := 3) (dfl := []) 0) (F.glo 4) (ok_number_in (P := P) (w := w) (base := base) F).kp hr tk (sa_w (sa_ev (s := true) (sa := true) (sb := true) (se_idx (s := true) (sa := true) (sb := true) (se_var (s := true) 1) (se_int (s := true))) (sa_nil)))) (sa_nil)))))) (sb_nil)) (sb_cons (ss_if (s := true) (st_cmp (s := true) (sa := true) (sb := true) op_notIn_seq ok_inS (se_var (s := true) 2) (se_tup (s := true) (sa_ev (s := true) (sa := true) (sb := true) (se_str (s := true)) (sa_ev (s := true) (sa := true) (sb := true) (se_str (s := true)) (sa_ev (s := true) (sa := true) (sb := true) (se_str (s := true)) (sa_nil)))))) (sb_one (ss_never)) (sb_nil)) (sb_cons (ss_tup (s := false) [3, 4] rfl (se_call ((ok_numbers_till F).callee (k := 2) (k' := 3) (dfl := []) 0) (F.glo 6) (ok_numbers_till (P := P) (w := w) (base := base) F).kp hr tk (sa_w (sa_ev (s := true) (sa := true) (sb := true) (se_use (s := true) 1) (sa_ev (s := true) (sa := true) (sb := true) (se_int (s := true)) (sa_ev (s := true) (sa := true) (sb := true) (se_str (s := true)) (sa_nil)))))) (pgs_cons (pg_nm 3 nd_read_line) (pgs_cons (pg_nm 4 nd_read_line) (pgs_nil)))) (sb_cons (ss_if (s := true) (SW.st (sw_or (s := true) (sa := true) (sb := true) (st_cmp (s := true) (sa := true) (sb := true) op_lt ok_lt (se_b1 (s := true) (sa := true) call_lenA ok_len (se_var (s := true) 3) (F.free 1) bt_len) (se_int (s := true))) (sw_or1 (s := true) (SW.st (sw_and (s := true) (sa := true) (sb := true) (st_cmp (s := true) (sa := true) (sb := true) (op_eqD hr.units) ok_eqD (se_var (s := true) 2) (se_str (s := true))) (sw_and1 (s := true) (st_cmp (s := true) (sa := true) (sb := true) op_gt ok_gt (se_b1 (s := true) (sa := true) call_lenA ok_len (se_var (s := true) 3) (F.free 1) bt_len) (se_int (s := true))))))))) (sb_one (ss_never)) (sb_nil)) (sb_cons (ss_tup (s := false) [5, 6, 7, 8] rfl (se_call ((ok_read_tail F).callee (k := 3) (k' := 3) (dfl := []) 0) (F.glo 13) (ok_read_tail (P := P) (w := w) (base := base) F).kp hr tk (sa_w (sa_ev (s := true) (sa := true) (sb := true) (se_use (s := true) 1) (sa_ev (s := true) (sa := true) (sb := true) (se_use (s := true) 4) (sa_nil))))) (pgs_cons (pg_nm 5 nd_read_line) (pgs_cons (pg_nm 6 nd_read_line) (pgs_cons (pg_nm 7 nd_read_line) (pgs_cons (pg_nm 8 nd_read_line) (pgs_nil)))))) (sb_cons (ss_if (s := true) (st_cmp (s := true) (sa := true) (sb := true) (op_eqD hr.units) ok_eqD (se_var (s := true) 2) (se_str (s := true))) (sb_one (ss_ret (s := false) (se_call ((ok_reading F).callee (k := 3) (k' := 3) (dfl := [.int 0, .non, .non]) 3) (F.glo 14) (ok_reading (P := P) (w := w) (base := base) F).kp hr tk (sa_w (sa_ev (s := true) (sa := true) (sb := true) (se_idx (s := true) (sa := true) (sb := true) (se_var (s := true) 3) (se_int (s := true))) (sa_ev (s := true) (sa := true) (sb := true) (se_idx (s := true) (sa := true) (sb := true) (se_var (s := true) 3) (se_int (s := true))) (sa_ev (s := true) (sa := true) (sb := true) (se_use (s := true) 5) (sa_ev (s := true) (sa := true) (sb := true) (se_use (s := true) 6) (sa_ev (s := true) (sa := true) (sb := true) (se_use (s := true) 7) (sa_ev (s := true) (sa := true) (sb := true) (se_use (s := true) 8) (sa_nil))))))))))) (sb_nil)) (sb_one (ss_ret (s := false) (se_call ((ok_writing F).callee (k := 3) (k' := 3) (dfl := [.int 0, .non, .non, .bl false]) 4) (F.glo 15) (ok_writing (P := P) (w := w) (base := base) F).kp hr tk (sa_w (sa_ev (s := true) (sa := true) (sb := true) (se_idx (s := true) (sa := true) (sb := true) (se_var (s := true) 3) (se_int (s := true))) (sa_ev (s := true) (sa := true) (sb := true) (se_slc (s := true) (sa := true) (se_var (s := true) 3) (so_some (se_int (s := true))) so_none) (sa_ev (s := true) (sa := true) (sb := true) (se_use (s := true) 5) (sa_ev (s := true) (sa := true) (sb := true) (se_use (s := true) 6) (sa_ev (s := true) (sa := true) (sb := true) (se_use (s := true) 7) (sa_ev (s := true) (sa := true) (sb := true) (se_use (s := true) 8) (sa_ev (s := true) (sa := true) (sb := true) (se_cmp (s := true) (sa := true) (sb := true) (op_eqD hr.units) ok_eqD (se_var (s := true) 2) (se_str (s := true))) (sa_nil)))))))))))))))))))
theorem ok_read_line (F : Fx fa ck fn K mg) : DefOk P w K mg base 4 (He.fAd K ("read_line", none)) 1 [] F_read_line := by
  obtain ⟨fd, Fd⟩ := F.def_ 11 (d := d_read_line) rfl
  exact def_law (fc := c_read_line) Fd sc_read_line rfl rfl rfl rfl (bd0 rfl rfl Fd fun _ _ _ _ _ _ us hl => match us, hl with | [_], _ => rfl) fun cdv A outer s H E hr => sb_read_line F cdv A outer s H E hr
theorem nd__law_whole : (["found"] : List Str).Nodup := by decide +kernel
theorem sc__law_whole : FnScope ["found"] ["found"] d__law_whole.scope := ⟨rfl, rfl, rfl, nd__law_whole, rfl, by decide +kernel, by decide +kernel⟩
theorem sb__law_whole (F : Fx fa ck fn K mg) (cdv : Value) (A : Around) (outer : List Env) (s : Shared) (H : Hp) (E : XK) (hr : Room 0 (A.deeper (envOfC d__law_whole.qual d__law_whole.scope s.heap.objs.size (He.fAd K d__law_whole.at_) cdv))) :
    SB (cxOf (L2.CX P w) P w K mg base ["found"] d__law_whole.qual d__law_whole.scope (He.fAd K d__law_whole.at_) cdv A outer s H E) (fun cls d _ H => E cls d H) (ioIx c__law_whole.io) d__law_whole.body c__law_whole.body := by
  have tk : Takes (cxOf (L2.CX P w) P w K mg base ["found"] d__law_whole.qual d__law_whole.scope (He.fAd K d__law_whole.at_) cdv A outer s H E) (fun cls d _ H => E cls d H) := takes_of rfl rfl rfl rfl
  exact sb_one (ss_ret (s := true) (se_and (s := true) (sa := true) (sb := true) (se_isi (s := true) (sa := true) (T := "int") (se_var (s := true) 0) (F.free 16) (F.free 3) bt_int) (se_one (se_not (s := true) (se_isi (s := true) (sa := true) (T := "bool") (se_var (s := true) 0) (F.free 16) (F.free 17) bt_bool)))))
theorem ok__law_whole (F : Fx fa ck fn K mg) : DefOk P w K mg base 1 (He.fAd K ("_law_whole", none)) 1 [] F__law_whole := by
  obtain ⟨fd, Fd⟩ := F.def_ 16 (d := d__law_whole) rfl
  exact def_law (fc := c__law_whole) Fd sc__law_whole rfl rfl rfl rfl (bd0 rfl rfl Fd fun _ _ _ _ _ _ us hl => match us, hl with | [_], _ => rfl) fun cdv A outer s H E hr => sb__law_whole F cdv A outer s H E hr
theorem nd__law_numbers : (["found", "one"] : List Str).Nodup := by decide +kernel
theorem sc__law_numbers : FnScope ["found", "one"] ["found"] d__law_numbers.scope := ⟨rfl, rfl, rfl, nd__law_numbers, rfl, by decide +kernel, by decide +kernel⟩
theorem sb__law_numbers (F : Fx fa ck fn K mg) (cdv : Value) (A : Around) (outer : List Env) (s : Shared) (H : Hp) (E : XK) (hr : Room 1 (A.deeper (envOfC d__law_numbers.qual d__law_numbers.scope s.heap.objs.size (He.fAd K d__law_numbers.at_) cdv))) :
    SB (cxOf (L2.CX P w) P w K mg base ["found", "one"] d__law_numbers.qual d__law_numbers.scope (He.fAd K d__law_numbers.at_) cdv A outer s H E) (fun cls d _ H => E cls d H) (ioIx c__law_numbers.io) d__law_numbers.body c__law_numbers.body := by
  have tk : Takes (cxOf (L2.CX P w) P w K mg base ["found", "one"] d__law_numbers.qual d__law_numbers.scope (He.fAd K d__law_numbers.at_) cdv A outer s H E) (fun cls d _ H => E cls d H) := takes_of rfl rfl rfl rfl
  exact sb_one (ss_ret (s := false) (se_and (s := false) (sa := true) (sb := false) (se_isi (s := true) (sa := true) (T := "tuple") (se_var (s := true) 0) (F.free 16) (F.free 8) bt_tuple) (se_one (se_cmp (s := false) (sa := false) (sb := true) (op_eqN hr.units) ok_eqN (se_lc (s := false) (sa := true) (sb := false) (sc := true) (own := [("one", 1)]) rfl nd__law_numbers (si_any (s := true) (se_use (s := true) 0)) (blk_ok (by kernel_rfl)) (fun _ _ _ _ _ => pgT_nm 1 nd__law_numbers) (fun _ _ _ _ _ => pts_one (st_not (s := false) (st_val (s := false) (se_call ((ok__law_whole F).callee (k := 1) (k' := 1) (dfl := []) 0) (F.glo 18) (ok__law_whole (P := P) (w := w) (base := base) F).kp hr takes0 (sa_w (sa_ev (s := true) (sa := true) (sb := true) (se_use (s := true) 1) (sa_nil))))))) (fun _ _ _ _ _ => se_use (s := true) 1)) (se_lst (s := true) (sa_nil))))))
theorem ok__law_numbers (F : Fx fa ck fn K mg) : DefOk P w K mg base 2 (He.fAd K ("_law_numbers", none)) 1 [] F__law_numbers := by
  obtain ⟨fd, Fd⟩ := F.def_ 17 (d := d__law_numbers) rfl
  exact def_law (fc := c__law_numbers) Fd sc__law_numbers rfl rfl rfl rfl (bd0 rfl rfl Fd fun _ _ _ _ _ _ us hl => match us, hl with | [_], _ => rfl) fun cdv A outer s H E hr => sb__law_numbers F cdv A outer s H E hr
theorem nd__law_same : (["ask", "one", "kind", "number"] : List Str).Nodup := by decide +kernel
theorem sc__law_same : FnScope ["ask", "one", "kind", "number"] ["ask", "one"] d__law_same.scope := ⟨rfl, rfl, rfl, nd__law_same, rfl, by decide +kernel, by decide +kernel⟩
theorem sb__law_same (F : Fx fa ck fn K mg) (cdv : Value) (A : Around) (outer : List Env) (s : Shared) (H : Hp) (E : XK) (hr : Room 2 (A.deeper (envOfC d__law_same.qual d__law_same.scope s.heap.objs.size (He.fAd K d__law_same.at_) cdv))) :
    SB (cxOf (L2.CX P w) P w K mg base ["ask", "one", "kind", "number"] d__law_same.qual d__law_same.scope (He.fAd K d__law_same.at_) cdv A outer s H E) (fun cls d _ H => E cls d H) (ioIx c__law_same.io) d__law_same.body c__law_same.body := by
  have tk : Takes (cxOf (L2.CX P w) P w K mg base ["ask", "one", "kind", "number"] d__law_same.qual d__law_same.scope (He.fAd K d__law_same.at_) cdv A outer s H E) (fun cls d _ H => E cls d H) := takes_of rfl rfl rfl rfl
  exact sb_cons (ss_set (s := true) 2 (se_idx (s := true) (sa := true) (sb := true) (se_var (s := true) 1) (se_int (s := true))) (hN := nd__law_same)) (sb_cons (ss_if (s := true) (st_cmp (s := true) (sa := true) (sb := true) (op_eqD hr.units) ok_eqD (se_var (s := true) 2) (se_str (s := true))) (sb_one (ss_set (s := true) 2 (se_str (s := true)) (hN := nd__law_same))) (sb_nil)) (sb_cons (ss_if (s := true) (SW.st (sw_or (s := true) (sa := true) (sb := true) (st_not (s := true) (st_val (s := true) (se_isi (s := true) (sa := true) (T := "str") (se_fld (s := true) (FO F) .n_kind (se_var (s := true) 0)) (F.free 16) (F.free 0) bt_str))) (sw_or (s := true) (sa := true) (sb := true) (st_cmp (s := true) (sa := true) (sb := true) (op_neD hr.units) ok_neD (se_fld (s := true) (FO F) .n_kind (se_var (s := true) 0)) (se_var (s := true) 2)) (sw_or1 (s := true) (st_not (s := true) (st_val (s := true) (se_isi (s := true) (sa := true) (T := "bool") (se_fld (s := true) (FO F) .n_early (se_var (s := true) 0)) (F.free 16) (F.free 17) bt_bool))))))) (sb_one (ss_ret (s := true) (se_bl (s := true)))) (sb_nil)) (sb_cons (ss_if (s := true) (st_cmp (s := true) (sa := true) (sb := true) (op_neD hr.units) ok_neD (se_fld (s := true) (FO F) .n_early (se_var (s := true) 0)) (se_cmp (s := true) (sa := true) (sb := true) (op_eqD hr.units) ok_eqD (se_idx (s := true) (sa := true) (sb := true) (se_var (s := true) 1) (se_int (s := true))) (se_str (s := true)))) (sb_one (ss_ret (s := true) (se_bl (s := true)))) (sb_nil)) (sb_cons (ss_for (s := true) (t := .nm 3) (passes_of rfl) rfl (si_any (s := true) (se_lst (s := true) (sa_ev (s := true) (sa := true) (sb := true) (se_fld (s := true) (FO F) .n_first (se_var (s := true) 0)) (sa_ev (s := true) (sa := true) (sb := true) (se_fld (s := true) (FO F) .n_many (se_var (s := true) 0)) (sa_ev (s := true) (sa := true) (sb := true) (se_fld (s := true) (FO F) .n_at (se_var (s := true) 0)) (sa_ev (s := true) (sa := true) (sb := true) (se_fld (s := true) (FO F) .n_asker (se_var (s := true) 0)) (sa_nil))))))) (pgT_nm 3 nd__law_same) (sb_one (ss_if (s := false) (st_not (s := false) (st_val (s := false) (se_call ((ok__law_whole F).callee (k := 1) (k' := 2) (dfl := []) 0) (F.glo 18) (ok__law_whole (P := P) (w := w) (base := base) F).kp hr tk (sa_w (sa_ev (s := true) (sa := true) (sb := true) (se_use (s := true) 3) (sa_nil)))))) (sb_one (ss_ret (s := true) (se_bl (s := true)))) (sb_nil)))) (sb_cons (ss_if (s := true) (st_cmp (s := true) (sa := true) (sb := true) (op_neD hr.units) ok_neD (se_lst (s := true) (sa_ev (s := true) (sa := true) (sb := true) (se_fld (s := true) (FO F) .n_first (se_var (s := true) 0)) (sa_ev (s := true) (sa := true) (sb := true) (se_fld (s := true) (FO F) .n_many (se_var (s := true) 0)) (sa_ev (s := true) (sa := true) (sb := true) (se_fld (s := true) (FO F) .n_at (se_var (s := true) 0)) (sa_ev (s := true) (sa := true) (sb := true) (se_fld (s := true) (FO F) .n_asker (se_var (s := true) 0)) (sa_nil)))))) (se_lst (s := true) (sa_ev (s := true) (sa := true) (sb := true) (se_idx (s := true) (sa := true) (sb := true) (se_var (s := true) 1) (se_int (s := true))) (sa_ev (s := true) (sa := true) (sb := true) (se_idx (s := true) (sa := true) (sb := true) (se_var (s := true) 1) (se_int (s := true))) (sa_ev (s := true) (sa := true) (sb := true) (se_idx (s := true) (sa := true) (sb := true) (se_var (s := true) 1) (se_int (s := true))) (sa_ev (s := true) (sa := true) (sb := true) (se_idx (s := true) (sa := true) (sb := true) (se_var (s := true) 1) (se_int (s := true))) (sa_nil))))))) (sb_one (ss_ret (s := true) (se_bl (s := true)))) (sb_nil)) (sb_cons (ss_if (s := true) (st_cmp (s := true) (sa := true) (sb := true) op_isN ok_isN (se_idx (s := true) (sa := true) (sb := true) (se_var (s := true) 1) (se_int (s := true))) (se_non (s := true))) (sb_one (ss_if (s := true) (st_cmp (s := true) (sa := true) (sb := true) op_notN ok_notN (se_fld (s := true) (FO F) .n_latest (se_var (s := true) 0)) (se_non (s := true))) (sb_one (ss_ret (s := true) (se_bl (s := true)))) (sb_nil))) (sb_one (ss_if (s := false) (SW.st (sw_or (s := false) (sa := false) (sb := true) (st_not (s := false) (st_val (s := false) (se_call ((ok__law_whole F).callee (k := 1) (k' := 2) (dfl := []) 0) (F.glo 18) (ok__law_whole (P := P) (w := w) (base := base) F).kp hr tk (sa_w (sa_ev (s := true) (sa := true) (sb := true) (se_fld (s := true) (FO F) .n_latest (se_var (s := true) 0)) (sa_nil)))))) (sw_or1 (s := true) (st_cmp (s := true) (sa := true) (sb := true) (op_neD hr.units) ok_neD (se_fld (s := true) (FO F) .n_latest (se_var (s := true) 0)) (se_idx (s := true) (sa := true) (sb := true) (se_var (s := true) 1) (se_int (s := true))))))) (sb_one (ss_ret (s := true) (se_bl (s := true)))) (sb_nil)))) (sb_cons (ss_if (s := false) (SW.st (sw_or (s := false) (sa := false) (sb := true) (st_not (s := false) (st_val (s := false) (se_call ((ok__law_numbers F).callee (k := 2) (k' := 2) (dfl := []) 0) (F.glo 19) (ok__law_numbers (P := P) (w := w) (base := base) F).kp hr tk (sa_w (sa_ev (s := true) (sa := true) (sb := true) (se_fld (s := true) (FO F) .n_marks (se_var (s := true) 0)) (sa_nil)))))) (sw_or1 (s := true) (st_cmp (s := true) (sa := true) (sb := true) (op_neD hr.units) ok_neD (se_fld (s := true) (FO F) .n_marks (se_var (s := true) 0)) (se_idx (s := true) (sa := true) (sb := true) (se_var (s := true) 1) (se_int (s := true))))))) (sb_one (ss_ret (s := true) (se_bl (s := true)))) (sb_nil)) (sb_one (ss_ret (s := false) (se_and (s := false) (sa := false) (sb := true) (se_call ((ok__law_numbers F).callee (k := 2) (k' := 2) (dfl := []) 0) (F.glo 19) (ok__law_numbers (P := P) (w := w) (base := base) F).kp hr tk (sa_w (sa_ev (s := true) (sa := true) (sb := true) (se_fld (s := true) (FO F) .n_behind (se_var (s := true) 0)) (sa_nil)))) (se_one (se_cmp (s := true) (sa := true) (sb := true) (op_eqD hr.units) ok_eqD (se_fld (s := true) (FO F) .n_behind (se_var (s := true) 0)) (se_idx (s := true) (sa := true) (sb := true) (se_var (s := true) 1) (se_int (s := true)))))))))))))))
theorem ok__law_same (F : Fx fa ck fn K mg) : DefOk P w K mg base 3 (He.fAd K ("_law_same", none)) 2 [] F__law_same := by
  obtain ⟨fd, Fd⟩ := F.def_ 18 (d := d__law_same) rfl
  exact def_law (fc := c__law_same) Fd sc__law_same rfl rfl rfl rfl (bd0 rfl rfl Fd fun _ _ _ _ _ _ us hl => match us, hl with | [_, _], _ => rfl) fun cdv A outer s H E hr => sb__law_same F cdv A outer s H E hr
theorem nd_shown : (["ask", "words", "mark", "number"] : List Str).Nodup := by decide +kernel
theorem sc_shown : FnScope ["ask", "words", "mark", "number"] ["ask"] d_shown.scope := ⟨rfl, rfl, rfl, nd_shown, rfl, by decide +kernel, by decide +kernel⟩
theorem sb_shown (F : Fx fa ck fn K mg) (cdv : Value) (A : Around) (outer : List Env) (s : Shared) (H : Hp) (E : XK) (hr : Room 0 (A.deeper (envOfC d_shown.qual d_shown.scope s.heap.objs.size (He.fAd K d_shown.at_) cdv))) :
    SB (cxOf (L2.CX P w) P w K mg base ["ask", "words", "mark", "number"] d_shown.qual d_shown.scope (He.fAd K d_shown.at_) cdv A outer s H E) (fun cls d _ H => E cls d H) (ioIx c_shown.io) d_shown.body c_shown.body := by
  have tk : Takes (cxOf (L2.CX P w) P w K mg base ["ask", "words", "mark", "number"] d_shown.qual d_shown.scope (He.fAd K d_shown.at_) cdv A outer s H E) (fun cls d _ H => E cls d H) := takes_of rfl rfl rfl rfl
  exact sb_cons (ss_set (s := true) 1 (se_lst (s := true) (sa_ev (s := true) (sa := true) (sb := true) (se_fld (s := true) (FO F) .n_kind (se_var (s := true) 0)) (sa_nil))) (hN := nd_shown)) (sb_cons (ss_if (s := true) (st_val (s := true) (se_fld (s := true) (FO F) .n_early (se_var (s := true) 0))) (sb_one (ss_set (s := true) 1 (se_lst (s := true) (sa_ev (s := true) (sa := true) (sb := true) (se_str (s := true)) (sa_nil))) (hN := nd_shown))) (sb_nil)) (sb_cons (ss_if (s := true) (st_cmp (s := true) (sa := true) (sb := true) (op_neD hr.units) ok_neD (se_fld (s := true) (FO F) .n_kind (se_var (s := true) 0)) (se_str (s := true))) (sb_one (ss_append (sy := true) (sl_var 1) (se_t1 (s := true) (sa := true) call_str_int ok_strI (se_fld (s := true) (FO F) .n_first (se_var (s := true) 0)) (F.free 0) bt_str))) (sb_nil)) (sb_cons (ss_if (s := true) (st_cmp (s := true) (sa := true) (sb := true) (op_eqD hr.units) ok_eqD (se_fld (s := true) (FO F) .n_kind (se_var (s := true) 0)) (se_str (s := true))) (sb_one (ss_append (sy := true) (sl_var 1) (se_t1 (s := true) (sa := true) call_str_int ok_strI (se_fld (s := true) (FO F) .n_many (se_var (s := true) 0)) (F.free 0) bt_str))) (sb_nil)) (sb_cons (ss_set (s := true) 1 (se_op (s := true) (sa := true) (sb := true) op_addA ok_add (se_op (s := true) (sa := true) (sb := true) op_addA ok_add (se_var (s := true) 1) (se_lc (s := true) (sa := true) (sb := true) (sc := true) (own := [("mark", 2)]) rfl nd_shown (si_any (s := true) (se_fld (s := true) (FO F) .n_marks (se_var (s := true) 0))) (blk_ok (by kernel_rfl)) (fun _ _ _ _ _ => pgT_nm 2 nd_shown) (fun _ _ _ _ _ => pts_yes) (fun _ _ _ _ _ => se_t1 (s := true) (sa := true) call_str_int ok_strI (se_var (s := true) 2) (F.free 0) bt_str))) (se_lst (s := true) (sa_ev (s := true) (sa := true) (sb := true) (se_str (s := true)) (sa_ev (s := true) (sa := true) (sb := true) (se_t1 (s := true) (sa := true) call_str_int ok_strI (se_fld (s := true) (FO F) .n_at (se_var (s := true) 0)) (F.free 0) bt_str) (sa_nil))))) (hN := nd_shown)) (sb_cons (ss_if (s := true) (st_cmp (s := true) (sa := true) (sb := true) (op_neD hr.units) ok_neD (se_fld (s := true) (FO F) .n_asker (se_var (s := true) 0)) (se_int (s := true))) (sb_one (ss_set (s := true) 1 (se_op (s := true) (sa := true) (sb := true) op_addA ok_add (se_var (s := true) 1) (se_lst (s := true) (sa_ev (s := true) (sa := true) (sb := true) (se_str (s := true)) (sa_ev (s := true) (sa := true) (sb := true) (se_t1 (s := true) (sa := true) call_str_int ok_strI (se_fld (s := true) (FO F) .n_asker (se_var (s := true) 0)) (F.free 0) bt_str) (sa_nil))))) (hN := nd_shown))) (sb_nil)) (sb_cons (ss_if (s := true) (st_cmp (s := true) (sa := true) (sb := true) op_notN ok_notN (se_fld (s := true) (FO F) .n_latest (se_var (s := true) 0)) (se_non (s := true))) (sb_one (ss_set (s := true) 1 (se_op (s := true) (sa := true) (sb := true) op_addA ok_add (se_var (s := true) 1) (se_lst (s := true) (sa_ev (s := true) (sa := true) (sb := true) (se_str (s := true)) (sa_ev (s := true) (sa := true) (sb := true) (se_t1 (s := true) (sa := true) call_str_int ok_strI (se_fld (s := true) (FO F) .n_latest (se_var (s := true) 0)) (F.free 0) bt_str) (sa_nil))))) (hN := nd_shown))) (sb_nil)) (sb_cons (ss_if (s := true) (st_cmp (s := true) (sa := true) (sb := true) op_gt ok_gt (se_b1 (s := true) (sa := true) call_lenA ok_len (se_fld (s := true) (FO F) .n_behind (se_var (s := true) 0)) (F.free 1) bt_len) (se_int (s := true))) (sb_one (ss_set (s := true) 1 (se_op (s := true) (sa := true) (sb := true) op_addA ok_add (se_op (s := true) (sa := true) (sb := true) op_addA ok_add (se_var (s := true) 1) (se_lst (s := true) (sa_ev (s := true) (sa := true) (sb := true) (se_str (s := true)) (sa_nil)))) (se_lc (s := true) (sa := true) (sb := true) (sc := true) (own := [("number", 3)]) rfl nd_shown (si_any (s := true) (se_fld (s := true) (FO F) .n_behind (se_var (s := true) 0))) (blk_ok (by kernel_rfl)) (fun _ _ _ _ _ => pgT_nm 3 nd_shown) (fun _ _ _ _ _ => pts_yes) (fun _ _ _ _ _ => se_t1 (s := true) (sa := true) call_str_int ok_strI (se_var (s := true) 3) (F.free 0) bt_str))) (hN := nd_shown))) (sb_nil)) (sb_one (ss_ret (s := true) (se_join (s := true) (sa := true) (sb := true) (se_str (s := true)) (se_var (s := true) 1)))))))))))
theorem ok_shown (F : Fx fa ck fn K mg) : DefOk P w K mg base 1 (He.fAd K ("shown", none)) 1 [] F_shown := by
  obtain ⟨fd, Fd⟩ := F.def_ 6 (d := d_shown) rfl
  exact def_law (fc := c_shown) Fd sc_shown rfl rfl rfl rfl (bd0 rfl rfl Fd fun _ _ _ _ _ _ us hl => match us, hl with | [_], _ => rfl) fun cdv A outer s H E hr => sb_shown F cdv A outer s H E hr
theorem nd__law_made : (["one", "cell", "behind", "marks"] : List Str).Nodup := by decide +kernel
theorem sc__law_made : FnScope ["one", "cell", "behind", "marks"] ["one", "cell"] d__law_made.scope := ⟨rfl, rfl, rfl, nd__law_made, rfl, by decide +kernel, by decide +kernel⟩
theorem sb__law_made (F : Fx fa ck fn K mg) (cdv : Value) (A : Around) (outer : List Env) (s : Shared) (H : Hp) (E : XK) (hr : Room 3 (A.deeper (envOfC d__law_made.qual d__law_made.scope s.heap.objs.size (He.fAd K d__law_made.at_) cdv))) :
    SB (cxOf (L2.CX P w) P w K mg base ["one", "cell", "behind", "marks"] d__law_made.qual d__law_made.scope (He.fAd K d__law_made.at_) cdv A outer s H E) (fun cls d _ H => E cls d H) (ioIx c__law_made.io) d__law_made.body c__law_made.body := by
  have tk : Takes (cxOf (L2.CX P w) P w K mg base ["one", "cell", "behind", "marks"] d__law_made.qual d__law_made.scope (He.fAd K d__law_made.at_) cdv A outer s H E) (fun cls d _ H => E cls d H) := takes_of rfl rfl rfl rfl
  exact sb_cons (ss_if (s := true) (st_cmp (s := true) (sa := true) (sb := true) (op_eqD hr.units) ok_eqD (se_idx (s := true) (sa := true) (sb := true) (se_var (s := true) 0) (se_int (s := true))) (se_str (s := true))) (sb_one (ss_ret (s := false) (se_call ((ok_resting F).callee (k := 3) (k' := 3) (dfl := []) 0) (F.glo 12) (ok_resting (P := P) (w := w) (base := base) F).kp hr tk (sa_w (sa_ev (s := true) (sa := true) (sb := true) (se_idx (s := true) (sa := true) (sb := true) (se_var (s := true) 0) (se_int (s := true))) (sa_nil)))))) (sb_nil)) (sb_cons (ss_set (s := true) 2 (se_idx (s := true) (sa := true) (sb := true) (se_var (s := true) 0) (se_int (s := true))) (hN := nd__law_made)) (sb_cons (ss_set (s := true) 3 (se_idx (s := true) (sa := true) (sb := true) (se_var (s := true) 0) (se_int (s := true))) (hN := nd__law_made)) (sb_cons (ss_if (s := true) (st_cmp (s := true) (sa := true) (sb := true) (op_eqD hr.units) ok_eqD (se_op (s := true) (sa := true) (sb := true) op_mod ok_mod (se_var (s := true) 1) (se_int (s := true))) (se_int (s := true))) (sb_cons (ss_set (s := true) 2 (se_t1 (s := true) (sa := true) call_list_of ok_list (se_var (s := true) 2) (F.free 20) bt_list) (hN := nd__law_made)) (sb_one (ss_set (s := true) 3 (se_t1 (s := true) (sa := true) call_list_of ok_list (se_var (s := true) 3) (F.free 20) bt_list) (hN := nd__law_made)))) (sb_nil)) (sb_cons (ss_if (s := true) (st_cmp (s := true) (sa := true) (sb := true) (op_eqD hr.units) ok_eqD (se_idx (s := true) (sa := true) (sb := true) (se_var (s := true) 0) (se_int (s := true))) (se_str (s := true))) (sb_one (ss_ret (s := false) (se_call ((ok_reading F).callee (k := 3) (k' := 3) (dfl := [.int 0, .non, .non]) 3) (F.glo 14) (ok_reading (P := P) (w := w) (base := base) F).kp hr tk (sa_w (sa_ev (s := true) (sa := true) (sb := true) (se_idx (s := true) (sa := true) (sb := true) (se_var (s := true) 0) (se_int (s := true))) (sa_ev (s := true) (sa := true) (sb := true) (se_idx (s := true) (sa := true) (sb := true) (se_var (s := true) 0) (se_int (s := true))) (sa_ev (s := true) (sa := true) (sb := true) (se_idx (s := true) (sa := true) (sb := true) (se_var (s := true) 0) (se_int (s := true))) (sa_ev (s := true) (sa := true) (sb := true) (se_idx (s := true) (sa := true) (sb := true) (se_var (s := true) 0) (se_int (s := true))) (sa_ev (s := true) (sa := true) (sb := true) (se_idx (s := true) (sa := true) (sb := true) (se_var (s := true) 0) (se_int (s := true))) (sa_ev (s := true) (sa := true) (sb := true) (se_use (s := true) 2) (sa_nil))))))))))) (sb_nil)) (sb_one (ss_ret (s := false) (se_call ((ok_writing F).callee (k := 3) (k' := 3) (dfl := [.int 0, .non, .non, .bl false]) 4) (F.glo 15) (ok_writing (P := P) (w := w) (base := base) F).kp hr tk (sa_w (sa_ev (s := true) (sa := true) (sb := true) (se_idx (s := true) (sa := true) (sb := true) (se_var (s := true) 0) (se_int (s := true))) (sa_ev (s := true) (sa := true) (sb := true) (se_use (s := true) 3) (sa_ev (s := true) (sa := true) (sb := true) (se_idx (s := true) (sa := true) (sb := true) (se_var (s := true) 0) (se_int (s := true))) (sa_ev (s := true) (sa := true) (sb := true) (se_idx (s := true) (sa := true) (sb := true) (se_var (s := true) 0) (se_int (s := true))) (sa_ev (s := true) (sa := true) (sb := true) (se_idx (s := true) (sa := true) (sb := true) (se_var (s := true) 0) (se_int (s := true))) (sa_ev (s := true) (sa := true) (sb := true) (se_use (s := true) 2) (sa_ev (s := true) (sa := true) (sb := true) (se_cmp (s := true) (sa := true) (sb := true) (op_eqD hr.units) ok_eqD (se_idx (s := true) (sa := true) (sb := true) (se_var (s := true) 0) (se_int (s := true))) (se_str (s := true))) (sa_nil))))))))))))))))
theorem ok__law_made (F : Fx fa ck fn K mg) : DefOk P w K mg base 4 (He.fAd K ("_law_made", none)) 2 [] F__law_made := by
  obtain ⟨fd, Fd⟩ := F.def_ 19 (d := d__law_made) rfl
  exact def_law (fc := c__law_made) Fd sc__law_made rfl rfl rfl rfl (bd0 rfl rfl Fd fun _ _ _ _ _ _ us hl => match us, hl with | [_, _], _ => rfl) fun cdv A outer s H E hr => sb__law_made F cdv A outer s H E hr
theorem nd__law_stream : (["cell", "many", "found", "number", "k"] : List Str).Nodup := by decide +kernel
theorem sc__law_stream : FnScope ["cell", "many", "found", "number", "k"] ["cell", "many"] d__law_stream.scope := ⟨rfl, rfl, rfl, nd__law_stream, rfl, by decide +kernel, by decide +kernel⟩
theorem sb__law_stream (F : Fx fa ck fn K mg) (cdv : Value) (A : Around) (outer : List Env) (s : Shared) (H : Hp) (E : XK) (hr : Room 0 (A.deeper (envOfC d__law_stream.qual d__law_stream.scope s.heap.objs.size (He.fAd K d__law_stream.at_) cdv))) :
    SB (cxOf (L2.CX P w) P w K mg base ["cell", "many", "found", "number", "k"] d__law_stream.qual d__law_stream.scope (He.fAd K d__law_stream.at_) cdv A outer s H E) (fun cls d _ H => E cls d H) (ioIx c__law_stream.io) d__law_stream.body c__law_stream.body := by
  have tk : Takes (cxOf (L2.CX P w) P w K mg base ["cell", "many", "found", "number", "k"] d__law_stream.qual d__law_stream.scope (He.fAd K d__law_stream.at_) cdv A outer s H E) (fun cls d _ H => E cls d H) := takes_of rfl rfl rfl rfl
  exact sb_cons (ss_set (s := true) 2 (se_lst (s := true) (sa_nil)) (hN := nd__law_stream)) (sb_cons (ss_set (s := true) 3 (se_op (s := true) (sa := true) (sb := true) op_addA ok_add (se_op (s := true) (sa := true) (sb := true) op_mod ok_mod (se_var (s := true) 0) (se_int (s := true))) (se_int (s := true))) (hN := nd__law_stream)) (sb_cons (ss_for (s := true) (t := .nm 4) (passes_of rfl) rfl (si_range1 (s := true) (se_op (s := true) (sa := true) (sb := true) op_addA ok_add (se_var (s := true) 1) (se_int (s := true))) (F.free 21)) (pgT_nm 4 nd__law_stream) (sb_cons (ss_set (s := true) 3 (se_op (s := true) (sa := true) (sb := true) op_mod ok_mod (se_op (s := true) (sa := true) (sb := true) op_addA ok_add (se_op (s := true) (sa := true) (sb := true) op_addA ok_add (se_op (s := true) (sa := true) (sb := true) op_mulA ok_mul (se_var (s := true) 3) (se_var (s := true) 3)) (se_op (s := true) (sa := true) (sb := true) op_mulA ok_mul (se_int (s := true)) (se_var (s := true) 3))) (se_var (s := true) 4)) (se_int (s := true))) (hN := nd__law_stream)) (sb_one (ss_append (sy := true) (sl_var 2) (se_use (s := true) 3))))) (sb_one (ss_ret (s := true) (se_slc (s := true) (sa := true) (se_var (s := true) 2) (so_some (se_int (s := true))) so_none)))))
theorem ok__law_stream (F : Fx fa ck fn K mg) : DefOk P w K mg base 1 (He.fAd K ("_law_stream", none)) 2 [] F__law_stream := by
  obtain ⟨fd, Fd⟩ := F.def_ 13 (d := d__law_stream) rfl
  exact def_law (fc := c__law_stream) Fd sc__law_stream rfl rfl rfl rfl (bd0 rfl rfl Fd fun _ _ _ _ _ _ us hl => match us, hl with | [_, _], _ => rfl) fun cdv A outer s H E hr => sb__law_stream F cdv A outer s H E hr
theorem nd__law_many_behind_right : (["cell", "numbers", "one", "line", "found", "number"] : List Str).Nodup := by decide +kernel
theorem sc__law_many_behind_right : FnScope ["cell", "numbers", "one", "line", "found", "number"] ["cell"] d__law_many_behind_right.scope := ⟨rfl, rfl, rfl, nd__law_many_behind_right, rfl, by decide +kernel, by decide +kernel⟩
theorem sb__law_many_behind_right (F : Fx fa ck fn K mg) (cdv : Value) (A : Around) (outer : List Env) (s : Shared) (H : Hp) (E : XK) (hr : Room 4 (A.deeper (envOfC d__law_many_behind_right.qual d__law_many_behind_right.scope s.heap.objs.size (He.fAd K d__law_many_behind_right.at_) cdv))) :
    SB (cxOf (L2.CX P w) P w K mg base ["cell", "numbers", "one", "line", "found", "number"] d__law_many_behind_right.qual d__law_many_behind_right.scope (He.fAd K d__law_many_behind_right.at_) cdv A outer s H E) (fun cls d _ H => E cls d H) (ioIx c__law_many_behind_right.io) d__law_many_behind_right.body c__law_many_behind_right.body := by
  have tk : Takes (cxOf (L2.CX P w) P w K mg base ["cell", "numbers", "one", "line", "found", "number"] d__law_many_behind_right.qual d__law_many_behind_right.scope (He.fAd K d__law_many_behind_right.at_) cdv A outer s H E) (fun cls d _ H => E cls d H) := takes_of rfl rfl rfl rfl
  exact sb_cons (ss_set (s := false) 1 (se_t1 (s := false) (sa := false) call_tuple_of ok_tuple (se_sorSet (s := false) (sa := false) rfl (se_lc (s := false) (sa := false) (sb := true) (sc := true) (own := [("number", 5)]) rfl nd__law_many_behind_right (si_any (s := false) (se_call ((ok__law_stream F).callee (k := 1) (k' := 4) (dfl := []) 0) (F.glo 22) (ok__law_stream (P := P) (w := w) (base := base) F).kp hr tk (sa_w (sa_ev (s := true) (sa := true) (sb := true) (se_use (s := true) 0) (sa_ev (s := true) (sa := true) (sb := true) (se_op (s := true) (sa := true) (sb := true) op_addA ok_add (se_int (s := true)) (se_op (s := true) (sa := true) (sb := true) op_mod ok_mod (se_var (s := true) 0) (se_int (s := true)))) (sa_nil)))))) (blk_ok (by kernel_rfl)) (fun _ _ _ _ _ => pgT_nm 5 nd__law_many_behind_right) (fun _ _ _ _ _ => pts_yes) (fun _ _ _ _ _ => se_op (s := true) (sa := true) (sb := true) op_mod ok_mod (se_var (s := true) 5) (se_int (s := true)))) (F.free 23) (F.free 24)) (F.free 8) bt_tuple) (hN := nd__law_many_behind_right)) (sb_cons (ss_set (s := true) 2 (se_tup (s := true) (sa_ev (s := true) (sa := true) (sb := true) (se_str (s := true)) (sa_ev (s := true) (sa := true) (sb := true) (se_int (s := true)) (sa_ev (s := true) (sa := true) (sb := true) (se_int (s := true)) (sa_ev (s := true) (sa := true) (sb := true) (se_tup (s := true) (sa_nil)) (sa_ev (s := true) (sa := true) (sb := true) (se_int (s := true)) (sa_ev (s := true) (sa := true) (sb := true) (se_int (s := true)) (sa_ev (s := true) (sa := true) (sb := true) (se_non (s := true)) (sa_ev (s := true) (sa := true) (sb := true) (se_use (s := true) 1) (sa_nil)))))))))) (hN := nd__law_many_behind_right)) (sb_cons (ss_set (s := false) 3 (se_call ((ok__law_text F).callee (k := 1) (k' := 4) (dfl := []) 0) (F.glo 25) (ok__law_text (P := P) (w := w) (base := base) F).kp hr tk (sa_w (sa_ev (s := true) (sa := true) (sb := true) (se_use (s := true) 2) (sa_nil)))) (hN := nd__law_many_behind_right)) (sb_cons (ss_set (s := true) 4 (se_non (s := true)) (hN := nd__law_many_behind_right)) (sb_cons (ss_try (sb_one (ss_set (s := false) 4 (se_call ((ok_read_line F).callee (k := 4) (k' := 4) (dfl := []) 0) (F.glo 26) (ok_read_line (P := P) (w := w) (base := base) F).kp hr takes0 (sa_w (sa_ev (s := true) (sa := true) (sb := true) (se_use (s := true) 3) (sa_nil)))) (hN := nd__law_many_behind_right)))) (sb_one (ss_ret (s := false) (se_and (s := false) (sa := true) (sb := false) (se_cmp (s := true) (sa := true) (sb := true) op_notN ok_notN (se_var (s := true) 4) (se_non (s := true))) (se_and (s := false) (sa := false) (sb := false) (se_call ((ok__law_same F).callee (k := 3) (k' := 4) (dfl := []) 0) (F.glo 27) (ok__law_same (P := P) (w := w) (base := base) F).kp hr tk (sa_w (sa_ev (s := true) (sa := true) (sb := true) (se_use (s := true) 4) (sa_ev (s := true) (sa := true) (sb := true) (se_use (s := true) 2) (sa_nil))))) (se_one (se_cmp (s := false) (sa := false) (sb := true) (op_eqD hr.units) ok_eqD (se_call ((ok_shown F).callee (k := 1) (k' := 4) (dfl := []) 0) (F.glo 29) (ok_shown (P := P) (w := w) (base := base) F).kp hr tk (sa_ev (s := false) (sa := false) (sb := true) (se_call ((ok__law_made F).callee (k := 4) (k' := 4) (dfl := []) 0) (F.glo 28) (ok__law_made (P := P) (w := w) (base := base) F).kp hr tk (sa_w (sa_ev (s := true) (sa := true) (sb := true) (se_use (s := true) 2) (sa_ev (s := true) (sa := true) (sb := true) (se_use (s := true) 0) (sa_nil))))) (sa_nil))) (se_var (s := true) 3)))))))))))
theorem ok__law_many_behind_right (F : Fx fa ck fn K mg) : DefOk P w K mg base 5 (He.fAd K ("_law_many_behind_right", none)) 1 [] F__law_many_behind_right := by
  obtain ⟨fd, Fd⟩ := F.def_ 20 (d := d__law_many_behind_right) rfl
  exact def_law (fc := c__law_many_behind_right) Fd sc__law_many_behind_right rfl rfl rfl rfl (bd0 rfl rfl Fd fun _ _ _ _ _ _ us hl => match us, hl with | [_], _ => rfl) fun cdv A outer s H E hr => sb__law_many_behind_right F cdv A outer s H E hr
theorem nd__law_drawn : (["cell", "xs", "kind", "at", "first", "many", "marks", "latest", "some", "j"] : List Str).Nodup := by decide +kernel
theorem sc__law_drawn : FnScope ["cell", "xs", "kind", "at", "first", "many", "marks", "latest", "some", "j"] ["cell"] d__law_drawn.scope := ⟨rfl, rfl, rfl, nd__law_drawn, rfl, by decide +kernel, by decide +kernel⟩
theorem sb__law_drawn (F : Fx fa ck fn K mg) (cdv : Value) (A : Around) (outer : List Env) (s : Shared) (H : Hp) (E : XK) (hr : Room 1 (A.deeper (envOfC d__law_drawn.qual d__law_drawn.scope s.heap.objs.size (He.fAd K d__law_drawn.at_) cdv))) :
    SB (cxOf (L2.CX P w) P w K mg base ["cell", "xs", "kind", "at", "first", "many", "marks", "latest", "some", "j"] d__law_drawn.qual d__law_drawn.scope (He.fAd K d__law_drawn.at_) cdv A outer s H E) (fun cls d _ H => E cls d H) (ioIx c__law_drawn.io) d__law_drawn.body c__law_drawn.body := by
  have tk : Takes (cxOf (L2.CX P w) P w K mg base ["cell", "xs", "kind", "at", "first", "many", "marks", "latest", "some", "j"] d__law_drawn.qual d__law_drawn.scope (He.fAd K d__law_drawn.at_) cdv A outer s H E) (fun cls d _ H => E cls d H) := takes_of rfl rfl rfl rfl
  exact sb_cons (ss_set (s := false) 1 (se_call ((ok__law_stream F).callee (k := 1) (k' := 1) (dfl := []) 0) (F.glo 22) (ok__law_stream (P := P) (w := w) (base := base) F).kp hr tk (sa_w (sa_ev (s := true) (sa := true) (sb := true) (se_use (s := true) 0) (sa_ev (s := true) (sa := true) (sb := true) (se_int (s := true)) (sa_nil))))) (hN := nd__law_drawn)) (sb_cons (ss_set (s := true) 2 (se_idx (s := true) (sa := true) (sb := true) (se_lst (s := true) (sa_ev (s := true) (sa := true) (sb := true) (se_str (s := true)) (sa_ev (s := true) (sa := true) (sb := true) (se_str (s := true)) (sa_ev (s := true) (sa := true) (sb := true) (se_str (s := true)) (sa_ev (s := true) (sa := true) (sb := true) (se_str (s := true)) (sa_ev (s := true) (sa := true) (sb := true) (se_str (s := true)) (sa_ev (s := true) (sa := true) (sb := true) (se_str (s := true)) (sa_nil)))))))) (se_op (s := true) (sa := true) (sb := true) op_mod ok_mod (se_idx (s := true) (sa := true) (sb := true) (se_var (s := true) 1) (se_int (s := true))) (se_int (s := true)))) (hN := nd__law_drawn)) (sb_cons (ss_set (s := true) 3 (se_idx (s := true) (sa := true) (sb := true) (se_lst (s := true) (sa_ev (s := true) (sa := true) (sb := true) (se_op (s := true) (sa := true) (sb := true) op_mod ok_mod (se_idx (s := true) (sa := true) (sb := true) (se_var (s := true) 1) (se_int (s := true))) (se_int (s := true))) (sa_ev (s := true) (sa := true) (sb := true) (se_op (s := true) (sa := true) (sb := true) op_mod ok_mod (se_var (s := true) 0) (se_op (s := true) (sa := true) (sb := true) op_addA ok_add (se_op (s := true) (sa := true) (sb := true) op_pow ok_pow (se_int (s := true)) (se_int (s := true))) (se_int (s := true)))) (sa_ev (s := true) (sa := true) (sb := true) (se_op (s := true) (sa := true) (sb := true) op_pow ok_pow (se_int (s := true)) (se_int (s := true))) (sa_nil))))) (se_op (s := true) (sa := true) (sb := true) op_mod ok_mod (se_idx (s := true) (sa := true) (sb := true) (se_var (s := true) 1) (se_int (s := true))) (se_int (s := true)))) (hN := nd__law_drawn)) (sb_cons (ss_if (s := true) (st_cmp (s := true) (sa := true) (sb := true) (op_eqD hr.units) ok_eqD (se_var (s := true) 2) (se_str (s := true))) (sb_one (ss_ret (s := true) (se_tup (s := true) (sa_ev (s := true) (sa := true) (sb := true) (se_use (s := true) 2) (sa_ev (s := true) (sa := true) (sb := true) (se_int (s := true)) (sa_ev (s := true) (sa := true) (sb := true) (se_int (s := true)) (sa_ev (s := true) (sa := true) (sb := true) (se_tup (s := true) (sa_nil)) (sa_ev (s := true) (sa := true) (sb := true) (se_use (s := true) 3) (sa_ev (s := true) (sa := true) (sb := true) (se_int (s := true)) (sa_ev (s := true) (sa := true) (sb := true) (se_non (s := true)) (sa_ev (s := true) (sa := true) (sb := true) (se_tup (s := true) (sa_nil)) (sa_nil)))))))))))) (sb_nil)) (sb_cons (ss_set (s := true) 4 (se_idx (s := true) (sa := true) (sb := true) (se_lst (s := true) (sa_ev (s := true) (sa := true) (sb := true) (se_op (s := true) (sa := true) (sb := true) op_mod ok_mod (se_idx (s := true) (sa := true) (sb := true) (se_var (s := true) 1) (se_int (s := true))) (se_int (s := true))) (sa_ev (s := true) (sa := true) (sb := true) (se_op (s := true) (sa := true) (sb := true) op_mod ok_mod (se_idx (s := true) (sa := true) (sb := true) (se_var (s := true) 1) (se_int (s := true))) (se_op (s := true) (sa := true) (sb := true) op_addA ok_add (se_op (s := true) (sa := true) (sb := true) op_pow ok_pow (se_int (s := true)) (se_int (s := true))) (se_int (s := true)))) (sa_ev (s := true) (sa := true) (sb := true) (se_op (s := true) (sa := true) (sb := true) op_pow ok_pow (se_int (s := true)) (se_int (s := true))) (sa_nil))))) (se_op (s := true) (sa := true) (sb := true) op_mod ok_mod (se_idx (s := true) (sa := true) (sb := true) (se_var (s := true) 1) (se_int (s := true))) (se_int (s := true)))) (hN := nd__law_drawn)) (sb_cons (ss_set (s := true) 5 (se_idx (s := true) (sa := true) (sb := true) (se_lst (s := true) (sa_ev (s := true) (sa := true) (sb := true) (se_op (s := true) (sa := true) (sb := true) op_addA ok_add (se_int (s := true)) (se_op (s := true) (sa := true) (sb := true) op_mod ok_mod (se_idx (s := true) (sa := true) (sb := true) (se_var (s := true) 1) (se_int (s := true))) (se_int (s := true)))) (sa_ev (s := true) (sa := true) (sb := true) (se_op (s := true) (sa := true) (sb := true) op_addA ok_add (se_int (s := true)) (se_op (s := true) (sa := true) (sb := true) op_mod ok_mod (se_idx (s := true) (sa := true) (sb := true) (se_var (s := true) 1) (se_int (s := true))) (se_int (s := true)))) (sa_ev (s := true) (sa := true) (sb := true) (se_int (s := true)) (sa_nil))))) (se_op (s := true) (sa := true) (sb := true) op_mod ok_mod (se_idx (s := true) (sa := true) (sb := true) (se_var (s := true) 1) (se_int (s := true))) (se_int (s := true)))) (hN := nd__law_drawn)) (sb_cons (ss_set (s := true) 6 (se_tup (s := true) (sa_nil)) (hN := nd__law_drawn)) (sb_cons (ss_if (s := true) (st_cmp (s := true) (sa := true) (sb := true) (op_neD hr.units) ok_neD (se_var (s := true) 2) (se_str (s := true))) (sb_one (ss_set (s := true) 6 (se_t1 (s := true) (sa := true) call_tuple_of ok_tuple (se_lc (s := true) (sa := true) (sb := true) (sc := true) (own := [("j", 9)]) rfl nd__law_drawn (si_range1 (s := true) (se_var (s := true) 5) (F.free 21)) (blk_ok (by kernel_rfl)) (fun _ _ _ _ _ => pgT_nm 9 nd__law_drawn) (fun _ _ _ _ _ => pts_yes) (fun _ _ _ _ _ => se_op (s := true) (sa := true) (sb := true) op_mod ok_mod (se_op (s := true) (sa := true) (sb := true) op_addA ok_add (se_op (s := true) (sa := true) (sb := true) op_mulA ok_mul (se_idx (s := true) (sa := true) (sb := true) (se_var (s := true) 1) (se_int (s := true))) (se_op (s := true) (sa := true) (sb := true) op_addA ok_add (se_var (s := true) 9) (se_int (s := true)))) (se_var (s := true) 0)) (se_idx (s := true) (sa := true) (sb := true) (se_lst (s := true) (sa_ev (s := true) (sa := true) (sb := true) (se_int (s := true)) (sa_ev (s := true) (sa := true) (sb := true) (se_op (s := true) (sa := true) (sb := true) op_addA ok_add (se_op (s := true) (sa := true) (sb := true) op_pow ok_pow (se_int (s := true)) (se_int (s := true))) (se_int (s := true))) (sa_nil)))) (se_op (s := true) (sa := true) (sb := true) op_mod ok_mod (se_idx (s := true) (sa := true) (sb := true) (se_var (s := true) 1) (se_int (s := true))) (se_int (s := true)))))) (F.free 8) bt_tuple) (hN := nd__law_drawn))) (sb_nil)) (sb_cons (ss_set (s := true) 7 (se_idx (s := true) (sa := true) (sb := true) (se_lst (s := true) (sa_ev (s := true) (sa := true) (sb := true) (se_non (s := true)) (sa_ev (s := true) (sa := true) (sb := true) (se_op (s := true) (sa := true) (sb := true) op_mod ok_mod (se_idx (s := true) (sa := true) (sb := true) (se_var (s := true) 1) (se_int (s := true))) (se_int (s := true))) (sa_ev (s := true) (sa := true) (sb := true) (se_op (s := true) (sa := true) (sb := true) op_mod ok_mod (se_op (s := true) (sa := true) (sb := true) op_mulA ok_mul (se_idx (s := true) (sa := true) (sb := true) (se_var (s := true) 1) (se_int (s := true))) (se_int (s := true))) (se_op (s := true) (sa := true) (sb := true) op_addA ok_add (se_op (s := true) (sa := true) (sb := true) op_pow ok_pow (se_int (s := true)) (se_int (s := true))) (se_int (s := true)))) (sa_ev (s := true) (sa := true) (sb := true) (se_op (s := true) (sa := true) (sb := true) op_pow ok_pow (se_int (s := true)) (se_int (s := true))) (sa_nil)))))) (se_op (s := true) (sa := true) (sb := true) op_mod ok_mod (se_idx (s := true) (sa := true) (sb := true) (se_var (s := true) 1) (se_int (s := true))) (se_int (s := true)))) (hN := nd__law_drawn)) (sb_cons (by first | exact ss_set (s := true) 8 (se_lc (s := true) (sa := true) (sb := true) (sc := true) (own := [("j", 9)]) rfl nd__law_drawn (si_range1 (s := true) (se_op (s := true) (sa := true) (sb := true) op_mulA ok_mul (se_op (s := true) (sa := true) (sb := true) op_mod ok_mod (se_idx (s := true) (sa := true) (sb := true) (se_var (s := true) 1) (se_int (s := true))) (se_int (s := true))) (se_op (s := true) (sa := true) (sb := true) op_mod ok_mod (se_op (s := true) (sa := true) (sb := true) op_fdiv ok_div (se_idx (s := true) (sa := true) (sb := true) (se_var (s := true) 1) (se_int (s := true))) (se_int (s := true))) (se_int (s := true)))) (F.free 21)) (blk_ok (by kernel_rfl)) (fun _ _ _ _ _ => pgT_nm 9 nd__law_drawn) (fun _ _ _ _ _ => pts_yes) (fun _ _ _ _ _ => se_op (s := true) (sa := true) (sb := true) op_mod ok_mod (se_idx (s := true) (sa := true) (sb := true) (se_var (s := true) 1) (se_op (s := true) (sa := true) (sb := true) op_addA ok_add (se_int (s := true)) (se_var (s := true) 9))) (se_int (s := true)))) (hN := nd__law_drawn) | exact ss_setLc (sa := true) (sb := true) (sc := true) (own := [("j", 9)]) rfl nd__law_drawn rfl rfl rfl (si_range1 (s := true) (se_op (s := true) (sa := true) (sb := true) op_mulA ok_mul (se_op (s := true) (sa := true) (sb := true) op_mod ok_mod (se_idx (s := true) (sa := true) (sb := true) (se_var (s := true) 1) (se_int (s := true))) (se_int (s := true))) (se_op (s := true) (sa := true) (sb := true) op_mod ok_mod (se_op (s := true) (sa := true) (sb := true) op_fdiv ok_div (se_idx (s := true) (sa := true) (sb := true) (se_var (s := true) 1) (se_int (s := true))) (se_int (s := true))) (se_int (s := true)))) (F.free 21)) (blk_ok (by kernel_rfl)) (fun _ _ _ _ _ => pgT_nm 9 nd__law_drawn) (fun _ _ _ _ _ => pts_yes) (fun _ _ _ _ _ => se_op (s := true) (sa := true) (sb := true) op_mod ok_mod (se_idx (s := true) (sa := true) (sb := true) (se_var (s := true) 1) (se_op (s := true) (sa := true) (sb := true) op_addA ok_add (se_int (s := true)) (se_var (s := true) 9))) (se_int (s := true)))) (sb_one (ss_ret (s := true) (se_tup (s := true) (sa_ev (s := true) (sa := true) (sb := true) (se_use (s := true) 2) (sa_ev (s := true) (sa := true) (sb := true) (se_use (s := true) 4) (sa_ev (s := true) (sa := true) (sb := true) (se_use (s := true) 5) (sa_ev (s := true) (sa := true) (sb := true) (se_use (s := true) 6) (sa_ev (s := true) (sa := true) (sb := true) (se_use (s := true) 3) (sa_ev (s := true) (sa := true) (sb := true) (se_idx (s := true) (sa := true) (sb := true) (se_lst (s := true) (sa_ev (s := true) (sa := true) (sb := true) (se_int (s := true)) (sa_ev (s := true) (sa := true) (sb := true) (se_int (s := true)) (sa_ev (s := true) (sa := true) (sb := true) (se_int (s := true)) (sa_ev (s := true) (sa := true) (sb := true) (se_op (s := true) (sa := true) (sb := true) op_mod ok_mod (se_idx (s := true) (sa := true) (sb := true) (se_var (s := true) 1) (se_int (s := true))) (se_int (s := true))) (sa_nil)))))) (se_op (s := true) (sa := true) (sb := true) op_mod ok_mod (se_idx (s := true) (sa := true) (sb := true) (se_var (s := true) 1) (se_int (s := true))) (se_int (s := true)))) (sa_ev (s := true) (sa := true) (sb := true) (se_use (s := true) 7) (sa_ev (s := true) (sa := true) (sb := true) (se_t1 (s := true) (sa := true) call_tuple_of ok_tuple (se_sorSet (s := true) (sa := true) rfl (se_var (s := true) 8) (F.free 23) (F.free 24)) (F.free 8) bt_tuple) (sa_nil)))))))))))))))))))))
theorem ok__law_drawn (F : Fx fa ck fn K mg) : DefOk P w K mg base 2 (He.fAd K ("_law_drawn", none)) 1 [] F__law_drawn := by
  obtain ⟨fd, Fd⟩ := F.def_ 14 (d := d__law_drawn) rfl
  exact def_law (fc := c__law_drawn) Fd sc__law_drawn rfl rfl rfl rfl (bd0 rfl rfl Fd fun _ _ _ _ _ _ us hl => match us, hl with | [_], _ => rfl) fun cdv A outer s H E hr => sb__law_drawn F cdv A outer s H E hr
theorem nd__law_cell_at : (["script", "k"] : List Str).Nodup := by decide +kernel
theorem sc__law_cell_at : FnScope ["script", "k"] ["script", "k"] d__law_cell_at.scope := ⟨rfl, rfl, rfl, nd__law_cell_at, rfl, by decide +kernel, by decide +kernel⟩
theorem sb__law_cell_at (F : Fx fa ck fn K mg) (cdv : Value) (A : Around) (outer : List Env) (s : Shared) (H : Hp) (E : XK) (hr : Room 0 (A.deeper (envOfC d__law_cell_at.qual d__law_cell_at.scope s.heap.objs.size (He.fAd K d__law_cell_at.at_) cdv))) :
    SB (cxOf (L2.CX P w) P w K mg base ["script", "k"] d__law_cell_at.qual d__law_cell_at.scope (He.fAd K d__law_cell_at.at_) cdv A outer s H E) (fun cls d _ H => E cls d H) (ioIx c__law_cell_at.io) d__law_cell_at.body c__law_cell_at.body := by
  have tk : Takes (cxOf (L2.CX P w) P w K mg base ["script", "k"] d__law_cell_at.qual d__law_cell_at.scope (He.fAd K d__law_cell_at.at_) cdv A outer s H E) (fun cls d _ H => E cls d H) := takes_of rfl rfl rfl rfl
  exact sb_cons (ss_if (s := true) (st_cmp (s := true) (sa := true) (sb := true) op_lt ok_lt (se_var (s := true) 1) (se_b1 (s := true) (sa := true) call_lenA ok_len (se_var (s := true) 0) (F.free 1) bt_len)) (sb_one (ss_ret (s := true) (se_idx (s := true) (sa := true) (sb := true) (se_var (s := true) 0) (se_var (s := true) 1)))) (sb_nil)) (sb_one (ss_ret (s := true) (se_int (s := true))))
theorem ok__law_cell_at (F : Fx fa ck fn K mg) : DefOk P w K mg base 1 (He.fAd K ("_law_cell_at", none)) 2 [] F__law_cell_at := by
  obtain ⟨fd, Fd⟩ := F.def_ 12 (d := d__law_cell_at) rfl
  exact def_law (fc := c__law_cell_at) Fd sc__law_cell_at rfl rfl rfl rfl (bd0 rfl rfl Fd fun _ _ _ _ _ _ us hl => match us, hl with | [_, _], _ => rfl) fun cdv A outer s H E hr => sb__law_cell_at F cdv A outer s H E hr
theorem nd_law : (["script", "cell", "one", "line", "found", "words", "at"] : List Str).Nodup := by decide +kernel
theorem sc_law : FnScope ["script", "cell", "one", "line", "found", "words", "at"] ["script"] d_law.scope := ⟨rfl, rfl, rfl, nd_law, rfl, by decide +kernel, by decide +kernel⟩
theorem sb_law (F : Fx fa ck fn K mg) (cdv : Value) (A : Around) (outer : List Env) (s : Shared) (H : Hp) (E : XK) (hr : Room 5 (A.deeper (envOfC d_law.qual d_law.scope s.heap.objs.size (He.fAd K d_law.at_) cdv))) :
    SB (cxOf (L2.CX P w) P w K mg base ["script", "cell", "one", "line", "found", "words", "at"] d_law.qual d_law.scope (He.fAd K d_law.at_) cdv A outer s H E) (fun cls d _ H => E cls d H) (ioIx c_law.io) d_law.body c_law.body := by
  have tk : Takes (cxOf (L2.CX P w) P w K mg base ["script", "cell", "one", "line", "found", "words", "at"] d_law.qual d_law.scope (He.fAd K d_law.at_) cdv A outer s H E) (fun cls d _ H => E cls d H) := takes_of rfl rfl rfl rfl
  exact sb_cons (ss_if (s := false) (st_not (s := false) (st_val (s := false) (se_call ((ok__law_many_behind_right F).callee (k := 5) (k' := 5) (dfl := []) 0) (F.glo 31) (ok__law_many_behind_right (P := P) (w := w) (base := base) F).kp hr tk (sa_ev (s := false) (sa := false) (sb := true) (se_call ((ok__law_cell_at F).callee (k := 1) (k' := 5) (dfl := []) 0) (F.glo 30) (ok__law_cell_at (P := P) (w := w) (base := base) F).kp hr tk (sa_w (sa_ev (s := true) (sa := true) (sb := true) (se_use (s := true) 0) (sa_ev (s := true) (sa := true) (sb := true) (se_int (s := true)) (sa_nil))))) (sa_nil))))) (sb_one (ss_ret (s := true) (se_bl (s := true)))) (sb_nil)) (sb_cons (ss_for (s := false) (t := .nm 1) (passes_of rfl) rfl (si_any (s := false) (se_op (s := false) (sa := false) (sb := true) op_addA ok_add (se_call ((ok__law_stream F).callee (k := 1) (k' := 5) (dfl := []) 0) (F.glo 22) (ok__law_stream (P := P) (w := w) (base := base) F).kp hr tk (sa_ev (s := false) (sa := false) (sb := true) (se_call ((ok__law_cell_at F).callee (k := 1) (k' := 5) (dfl := []) 0) (F.glo 30) (ok__law_cell_at (P := P) (w := w) (base := base) F).kp hr tk (sa_w (sa_ev (s := true) (sa := true) (sb := true) (se_use (s := true) 0) (sa_ev (s := true) (sa := true) (sb := true) (se_int (s := true)) (sa_nil))))) (sa_ev (s := true) (sa := true) (sb := true) (se_int (s := true)) (sa_nil)))) (se_slc (s := true) (sa := true) (se_var (s := true) 0) so_none (so_some (se_int (s := true)))))) (pgT_nm 1 nd_law) (sb_cons (ss_set (s := false) 2 (se_call ((ok__law_drawn F).callee (k := 2) (k' := 5) (dfl := []) 0) (F.glo 32) (ok__law_drawn (P := P) (w := w) (base := base) F).kp hr tk (sa_w (sa_ev (s := true) (sa := true) (sb := true) (se_use (s := true) 1) (sa_nil)))) (hN := nd_law)) (sb_cons (ss_set (s := false) 3 (se_call ((ok__law_text F).callee (k := 1) (k' := 5) (dfl := []) 0) (F.glo 25) (ok__law_text (P := P) (w := w) (base := base) F).kp hr tk (sa_w (sa_ev (s := true) (sa := true) (sb := true) (se_use (s := true) 2) (sa_nil)))) (hN := nd_law)) (sb_cons (ss_set (s := false) 4 (se_call ((ok_shown F).callee (k := 1) (k' := 5) (dfl := []) 0) (F.glo 29) (ok_shown (P := P) (w := w) (base := base) F).kp hr tk (sa_ev (s := false) (sa := false) (sb := true) (se_call ((ok__law_made F).callee (k := 4) (k' := 5) (dfl := []) 0) (F.glo 28) (ok__law_made (P := P) (w := w) (base := base) F).kp hr tk (sa_w (sa_ev (s := true) (sa := true) (sb := true) (se_use (s := true) 2) (sa_ev (s := true) (sa := true) (sb := true) (se_use (s := true) 1) (sa_nil))))) (sa_nil))) (hN := nd_law)) (sb_cons (ss_if (s := false) (SW.st (sw_or (s := false) (sa := true) (sb := false) (st_not (s := true) (st_val (s := true) (se_isi (s := true) (sa := true) (T := "str") (se_var (s := true) 4) (F.free 16) (F.free 0) bt_str))) (sw_or (s := false) (sa := true) (sb := false) (st_cmp (s := true) (sa := true) (sb := true) (op_neD hr.units) ok_neD (se_var (s := true) 4) (se_var (s := true) 3)) (sw_or1 (s := false) (st_not (s := false) (st_val (s := false) (se_call ((ok__law_same F).callee (k := 3) (k' := 5) (dfl := []) 0) (F.glo 27) (ok__law_same (P := P) (w := w) (base := base) F).kp hr tk (sa_ev (s := false) (sa := false) (sb := true) (se_call ((ok_read_line F).callee (k := 4) (k' := 5) (dfl := []) 0) (F.glo 26) (ok_read_line (P := P) (w := w) (base := base) F).kp hr tk (sa_w (sa_ev (s := true) (sa := true) (sb := true) (se_use (s := true) 3) (sa_nil)))) (sa_ev (s := true) (sa := true) (sb := true) (se_use (s := true) 2) (sa_nil)))))))))) (sb_one (ss_ret (s := true) (se_bl (s := true)))) (sb_nil)) (sb_one (ss_if (s := true) (SW.st (sw_and (s := true) (sa := true) (sb := true) (st_cmp (s := true) (sa := true) (sb := true) (op_neD hr.units) ok_neD (se_idx (s := true) (sa := true) (sb := true) (se_var (s := true) 2) (se_int (s := true))) (se_str (s := true))) (sw_and1 (s := true) (st_cmp (s := true) (sa := true) (sb := true) (op_eqD hr.units) ok_eqD (se_idx (s := true) (sa := true) (sb := true) (se_var (s := true) 2) (se_int (s := true))) (se_int (s := true)))))) (sb_cons (ss_set (s := true) 5 (se_split (s := true) (sa := true) (sb := true) (se_var (s := true) 3) (se_str (s := true))) (hN := nd_law)) (sb_cons (ss_set (s := true) 6 (se_op (s := true) (sa := true) (sb := true) op_addA ok_add (se_index (s := true) (sa := true) (se_var (s := true) 5) (se_str (s := true))) (se_int (s := true))) (hN := nd_law)) (sb_one (ss_if (s := false) (st_not (s := false) (st_val (s := false) (se_call ((ok__law_same F).callee (k := 3) (k' := 5) (dfl := []) 0) (F.glo 27) (ok__law_same (P := P) (w := w) (base := base) F).kp hr tk (sa_ev (s := false) (sa := false) (sb := true) (se_call ((ok_read_line F).callee (k := 4) (k' := 5) (dfl := []) 0) (F.glo 26) (ok_read_line (P := P) (w := w) (base := base) F).kp hr tk (sa_w (sa_ev (s := true) (sa := true) (sb := true) (se_join (s := true) (sa := true) (sb := true) (se_str (s := true)) (se_op (s := true) (sa := true) (sb := true) op_addA ok_add (se_op (s := true) (sa := true) (sb := true) op_addA ok_add (se_slc (s := true) (sa := true) (se_var (s := true) 5) so_none (so_some (se_var (s := true) 6))) (se_lst (s := true) (sa_ev (s := true) (sa := true) (sb := true) (se_str (s := true)) (sa_ev (s := true) (sa := true) (sb := true) (se_str (s := true)) (sa_nil))))) (se_slc (s := true) (sa := true) (se_var (s := true) 5) (so_some (se_var (s := true) 6)) so_none))) (sa_nil)))) (sa_ev (s := true) (sa := true) (sb := true) (se_use (s := true) 2) (sa_nil)))))) (sb_one (ss_ret (s := true) (se_bl (s := true)))) (sb_nil))))) (sb_nil)))))))) (sb_one (ss_ret (s := true) (se_bl (s := true)))))
theorem ok_law (F : Fx fa ck fn K mg) : DefOk P w K mg base 6 (He.fAd K ("law", none)) 1 [] F_law := by
  obtain ⟨fd, Fd⟩ := F.def_ 21 (d := d_law) rfl
  exact def_law (fc := c_law) Fd sc_law rfl rfl rfl rfl (bd0 rfl rfl Fd fun _ _ _ _ _ _ us hl => match us, hl with | [_], _ => rfl) fun cdv A outer s H E hr => sb_law F cdv A outer s H E hr
end Pd
end
section
namespace Pd
open PySem PySem.Spec PyProof.Rows L2
abbrev Rw : PySem.W.OpenRow := PySem.W.OpenLaw.row PySem.Challenge.rw_armswing_k73_lines_read
abbrev hk : PySem.W.Hook := hookC 5 fa ck fn
def ob (s : PySem.W.SharedT) : He.AlD := obsCG 5 fa ck fn (HandSHeadRun.getT s)
theorem ob_eq (s : PySem.W.SharedT) : ob s = hk.obs s.abs := obsCG_eq (HandSHeadRun.getT_eq s)
def loose0 : List Str := [Str.ofString "ArmError", Str.ofString "NoAsk", Str.ofString "NoLine", Str.ofString "Ask", Str.ofString "check", Str.ofString "with_rest", Str.ofString "reading", Str.ofString "writing", Str.ofString "resting", Str.ofString "FIGURES", Str.ofString "shown", Str.ofString "number_in", Str.ofString "numbers_till", Str.ofString "after_word", Str.ofString "read_tail", Str.ofString "read_line", Str.ofString "_law_cell_at", Str.ofString "_law_stream", Str.ofString "_law_drawn", Str.ofString "_law_text", Str.ofString "_law_whole", Str.ofString "_law_numbers", Str.ofString "_law_same", Str.ofString "_law_made", Str.ofString "_law_many_behind_right"]
def loose : List Str := loose0
theorem run (w : World) : HandSHeadRun.RunEq Rw (PySem.W.view Rw.prog [29]) hk ob 1800 loose w := by
  intro os
  kernel_rfl
end Pd
open PySem PySem.W PySem.Calls PyProof.Rows Pd
theorem PySem.Challenge.cw_armswing_k73_lines_read_holds : PySem.Challenge.rw_armswing_k73_lines_read.Holds := by
  w_on; o_law
  refine HandSHeadRun.head_any (r := OpenLaw.row PySem.Challenge.rw_armswing_k73_lines_read) (q := view (OpenLaw.row PySem.Challenge.rw_armswing_k73_lines_read).prog [29]) (H := Pd.hk) (ob := Pd.ob) (M := 1800) (loose := Pd.loose) (d := HandSHeadRun.topDef (OpenLaw.row PySem.Challenge.rw_armswing_k73_lines_read).prog 29) (kwd := []) Pd.ob_eq
    (by kernel_rfl) (fun s => by kernel_rfl) Pd.run (by kernel_rfl) (by kernel_rfl) (by kernel_rfl) (by rfl) (by first | assumption | decide +kernel) (by decide +kernel) ⟨rfl, rfl, rfl, rfl, rfl, by decide +kernel⟩ ?hw ?hc
  case hw => w_witness2
  case hc =>
    refine Pd.walk_end (l := PySem.Challenge.rw_armswing_k73_lines_read) (n := 63) (k := 6) (x := "script") rfl (by decide) (by kernel_rfl) ⟨rfl, by decide, by decide⟩ ?F
    intro w mg fa0 h Y G hmg0
    obtain ⟨K, KX, c⟩ := Y
    have hmg : mg ("law" : PySem.Str) = some (.ref fa0) := by
      have e : (HandSHeadRun.topDef (OpenLaw.row PySem.Challenge.rw_armswing_k73_lines_read).prog 29).name = ("law" : PySem.Str) := by kernel_rfl
      rw [← e]
      exact hmg0
    exact Pd.law_end (k := 5) (d := Pd.d_law) (fc := Pd.c_law) (i := 21) (j := 43) KX G c hmg rfl rfl rfl rfl Pd.sc_law rfl rfl rfl (fun _ _ _ _ _ _ us hl => match us, hl with | [_], _ => rfl) (fun base F cdv A outer s H E hr => Pd.sb_law F cdv A outer s H E hr) Pd.law_true
end
