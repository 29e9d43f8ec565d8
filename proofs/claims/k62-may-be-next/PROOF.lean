import PyProof.Rows.All
import PySem.Str
import Wide.All
import OpenK.AllK
import Wide.FinOn
import HandS.ForMost
import HandS.Exc
import HandS.Defaults
import HandS.HeadHook1
import HandS.TupAny
import HandS.CallSlots
import HandS.TupLen
import HandS.SortInts
import HandS.IsInst
import HandS.Conv
import HandS.HeadHook2
import HandS.HeadEnd
import HandS.Style
import KE.KStateDown
import HandS.Ends
import HandS.WordsExc
import HandS.Head0
import HandS.Head1
import HandS.Head2
import HandS.More
import HandS.Words
import PySem.Challenge.RW_armswing_k62_may_be_next
set_option Elab.async false
set_option linter.all false
set_option maxRecDepth 100000
set_option maxHeartbeats 0
section
namespace Pd
inductive Nm where
  | n_ArmError | n_Ask | n_Careful | n_Desk | n_Due | n_FIGURES | n_First | n_Latest | n_Lift | n_MANY | n_MOST | n_MOST_leastways | n_MOST_plates | n_Mended 
  | n_Nearest | n_NoAsk | n_NoBook | n_NoCell | n_NoLine | n_NoOrder | n_NoPlate | n_NoRule | n_NoSpare | n_Plate | n_Played | n_Rule | n_Shares | n_Soonest 
  | n_Sweep | n_TooMany | n_UUinitUU | n__law_again | n__law_ahead | n__law_all_refused | n__law_all_told | n__law_answers | n__law_are_leaves | n__law_ask 
  | n__law_askers | n__law_asks | n__law_at | n__law_bad | n__law_bad_line | n__law_beat_word | n__law_behind | n__law_behind_way | n__law_beside | n__law_bound 
  | n__law_by_latest | n__law_careful_right | n__law_cell | n__law_cell_at | n__law_cells | n__law_chain_right | n__law_changed | n__law_clash | n__law_clashing 
  | n__law_classes | n__law_counted | n__law_counts | n__law_covered | n__law_cut | n__law_desk | n__law_draw | n__law_drawn | n__law_due | n__law_eight_right 
  | n__law_ended | n__law_ends | n__law_ever | n__law_first_wrong | n__law_forms_refused | n__law_free_ones | n__law_full | n__law_gone | n__law_good | n__law_in_time 
  | n__law_is_number | n__law_is_order | n__law_keeps | n__law_kept | n__law_known | n__law_lap | n__law_last | n__law_later | n__law_lies | n__law_line 
  | n__law_made | n__law_made_plate | n__law_many_behind_right | n__law_marks | n__law_may | n__law_mix | n__law_no | n__law_no_book | n__law_no_line | n__law_none_in_time 
  | n__law_number | n__law_numbers | n__law_odd | n__law_of_class | n__law_one_changed | n__law_one_due | n__law_orders | n__law_other_word | n__law_pairs 
  | n__law_parsed | n__law_passed | n__law_pick_right | n__law_picks_alike | n__law_plate | n__law_play_right | n__law_played | n__law_reads | n__law_refusals 
  | n__law_refused | n__law_right | n__law_rounds_right | n__law_row | n__law_row_known | n__law_rows | n__law_rule | n__law_rule_text | n__law_run | n__law_safe 
  | n__law_same | n__law_settled | n__law_spec | n__law_specs | n__law_spoiled | n__law_spot | n__law_start | n__law_stays | n__law_stream | n__law_swing 
  | n__law_tail | n__law_taken | n__law_text | n__law_thing | n__law_tight | n__law_told | n__law_told_text | n__law_waiting | n__law_walk | n__law_walked 
  | n__law_way_text | n__law_whole | n__law_without | n__law_word | n__law_words | n__law_written | n__law_zones | n__wall | n_after_word | n_all_dues 
  | n_anew | n_answers | n_answers_of | n_append | n_ask | n_ask_number | n_asked_shares | n_asker | n_at | n_bad | n_bad_numbers | n_batch | n_beats_of 
  | n_begins | n_behind | n_bound_of | n_calm | n_cell | n_cell_at | n_cells | n_cells_of | n_check | n_check_behind | n_check_lap | n_check_swing | n_clash 
  | n_clear | n_counts | n_dues_at | n_early | n_end | n_extend | n_first | n_first_late | n_first_wrong | n_free_cell | n_from_ring | n_get | n_go_by 
  | n_go_on | n_gone_through | n_heap_put | n_heap_take | n_how_far | n_in_time | n_index | n_innermost | n_inward | n_join | n_keeps_behind | n_kind | n_laid 
  | n_lap | n_lap_beats | n_last | n_latest | n_law | n_least_below | n_least_of | n_least_way | n_left_behind | n_lies | n_looked_at | n_lying | n_many 
  | n_marks | n_may_be_next | n_may_be_taken | n_moved | n_next_begin | n_next_taking | n_number | n_number_in | n_number_of | n_numbered_stretch | n_numbers_till 
  | n_one_number | n_opened | n_orders | n_other | n_pick | n_plain_cell | n_plain_number | n_play | n_pop | n_put_ask | n_rank | n_read_line | n_read_tail 
  | n_reading | n_remove | n_resting | n_reverse | n_ring_counts | n_rings | n_room | n_row | n_rows | n_rule_of | n_say | n_settled | n_share_of | n_shares 
  | n_shares_bound | n_shares_of | n_shares_row | n_shown | n_skew | n_spare | n_split | n_stretch | n_swing_of | n_swings | n_taken | n_taking | n_that_way 
  | n_told | n_told_beats | n_total | n_turn | n_turning | n_used | n_waits | n_way | n_way_end | n_way_of | n_when_told | n_with_rest | n_writing 
  deriving DecidableEq
def Nm.str : Nm → PySem.Str
  | .n_ArmError => "ArmError"
  | .n_Ask => "Ask"
  | .n_Careful => "Careful"
  | .n_Desk => "Desk"
  | .n_Due => "Due"
  | .n_FIGURES => "FIGURES"
  | .n_First => "First"
  | .n_Latest => "Latest"
  | .n_Lift => "Lift"
  | .n_MANY => "MANY"
  | .n_MOST => "MOST"
  | .n_MOST_leastways => "MOST_leastways"
  | .n_MOST_plates => "MOST_plates"
  | .n_Mended => "Mended"
  | .n_Nearest => "Nearest"
  | .n_NoAsk => "NoAsk"
  | .n_NoBook => "NoBook"
  | .n_NoCell => "NoCell"
  | .n_NoLine => "NoLine"
  | .n_NoOrder => "NoOrder"
  | .n_NoPlate => "NoPlate"
  | .n_NoRule => "NoRule"
  | .n_NoSpare => "NoSpare"
  | .n_Plate => "Plate"
  | .n_Played => "Played"
  | .n_Rule => "Rule"
  | .n_Shares => "Shares"
  | .n_Soonest => "Soonest"
  | .n_Sweep => "Sweep"
  | .n_TooMany => "TooMany"
  | .n_UUinitUU => "__init__"
  | .n__law_again => "_law_again"
  | .n__law_ahead => "_law_ahead"
  | .n__law_all_refused => "_law_all_refused"
  | .n__law_all_told => "_law_all_told"
  | .n__law_answers => "_law_answers"
  | .n__law_are_leaves => "_law_are_leaves"
  | .n__law_ask => "_law_ask"
  | .n__law_askers => "_law_askers"
  | .n__law_asks => "_law_asks"
  | .n__law_at => "_law_at"
  | .n__law_bad => "_law_bad"
  | .n__law_bad_line => "_law_bad_line"
  | .n__law_beat_word => "_law_beat_word"
  | .n__law_behind => "_law_behind"
  | .n__law_behind_way => "_law_behind_way"
  | .n__law_beside => "_law_beside"
  | .n__law_bound => "_law_bound"
  | .n__law_by_latest => "_law_by_latest"
  | .n__law_careful_right => "_law_careful_right"
  | .n__law_cell => "_law_cell"
  | .n__law_cell_at => "_law_cell_at"
  | .n__law_cells => "_law_cells"
  | .n__law_chain_right => "_law_chain_right"
  | .n__law_changed => "_law_changed"
  | .n__law_clash => "_law_clash"
  | .n__law_clashing => "_law_clashing"
  | .n__law_classes => "_law_classes"
  | .n__law_counted => "_law_counted"
  | .n__law_counts => "_law_counts"
  | .n__law_covered => "_law_covered"
  | .n__law_cut => "_law_cut"
  | .n__law_desk => "_law_desk"
  | .n__law_draw => "_law_draw"
  | .n__law_drawn => "_law_drawn"
  | .n__law_due => "_law_due"
  | .n__law_eight_right => "_law_eight_right"
  | .n__law_ended => "_law_ended"
  | .n__law_ends => "_law_ends"
  | .n__law_ever => "_law_ever"
  | .n__law_first_wrong => "_law_first_wrong"
  | .n__law_forms_refused => "_law_forms_refused"
  | .n__law_free_ones => "_law_free_ones"
  | .n__law_full => "_law_full"
  | .n__law_gone => "_law_gone"
  | .n__law_good => "_law_good"
  | .n__law_in_time => "_law_in_time"
  | .n__law_is_number => "_law_is_number"
  | .n__law_is_order => "_law_is_order"
  | .n__law_keeps => "_law_keeps"
  | .n__law_kept => "_law_kept"
  | .n__law_known => "_law_known"
  | .n__law_lap => "_law_lap"
  | .n__law_last => "_law_last"
  | .n__law_later => "_law_later"
  | .n__law_lies => "_law_lies"
  | .n__law_line => "_law_line"
  | .n__law_made => "_law_made"
  | .n__law_made_plate => "_law_made_plate"
  | .n__law_many_behind_right => "_law_many_behind_right"
  | .n__law_marks => "_law_marks"
  | .n__law_may => "_law_may"
  | .n__law_mix => "_law_mix"
  | .n__law_no => "_law_no"
  | .n__law_no_book => "_law_no_book"
  | .n__law_no_line => "_law_no_line"
  | .n__law_none_in_time => "_law_none_in_time"
  | .n__law_number => "_law_number"
  | .n__law_numbers => "_law_numbers"
  | .n__law_odd => "_law_odd"
  | .n__law_of_class => "_law_of_class"
  | .n__law_one_changed => "_law_one_changed"
  | .n__law_one_due => "_law_one_due"
  | .n__law_orders => "_law_orders"
  | .n__law_other_word => "_law_other_word"
  | .n__law_pairs => "_law_pairs"
  | .n__law_parsed => "_law_parsed"
  | .n__law_passed => "_law_passed"
  | .n__law_pick_right => "_law_pick_right"
  | .n__law_picks_alike => "_law_picks_alike"
  | .n__law_plate => "_law_plate"
  | .n__law_play_right => "_law_play_right"
  | .n__law_played => "_law_played"
  | .n__law_reads => "_law_reads"
  | .n__law_refusals => "_law_refusals"
  | .n__law_refused => "_law_refused"
  | .n__law_right => "_law_right"
  | .n__law_rounds_right => "_law_rounds_right"
  | .n__law_row => "_law_row"
  | .n__law_row_known => "_law_row_known"
  | .n__law_rows => "_law_rows"
  | .n__law_rule => "_law_rule"
  | .n__law_rule_text => "_law_rule_text"
  | .n__law_run => "_law_run"
  | .n__law_safe => "_law_safe"
  | .n__law_same => "_law_same"
  | .n__law_settled => "_law_settled"
  | .n__law_spec => "_law_spec"
  | .n__law_specs => "_law_specs"
  | .n__law_spoiled => "_law_spoiled"
  | .n__law_spot => "_law_spot"
  | .n__law_start => "_law_start"
  | .n__law_stays => "_law_stays"
  | .n__law_stream => "_law_stream"
  | .n__law_swing => "_law_swing"
  | .n__law_tail => "_law_tail"
  | .n__law_taken => "_law_taken"
  | .n__law_text => "_law_text"
  | .n__law_thing => "_law_thing"
  | .n__law_tight => "_law_tight"
  | .n__law_told => "_law_told"
  | .n__law_told_text => "_law_told_text"
  | .n__law_waiting => "_law_waiting"
  | .n__law_walk => "_law_walk"
  | .n__law_walked => "_law_walked"
  | .n__law_way_text => "_law_way_text"
  | .n__law_whole => "_law_whole"
  | .n__law_without => "_law_without"
  | .n__law_word => "_law_word"
  | .n__law_words => "_law_words"
  | .n__law_written => "_law_written"
  | .n__law_zones => "_law_zones"
  | .n__wall => "_wall"
  | .n_after_word => "after_word"
  | .n_all_dues => "all_dues"
  | .n_anew => "anew"
  | .n_answers => "answers"
  | .n_answers_of => "answers_of"
  | .n_append => "append"
  | .n_ask => "ask"
  | .n_ask_number => "ask_number"
  | .n_asked_shares => "asked_shares"
  | .n_asker => "asker"
  | .n_at => "at"
  | .n_bad => "bad"
  | .n_bad_numbers => "bad_numbers"
  | .n_batch => "batch"
  | .n_beats_of => "beats_of"
  | .n_begins => "begins"
  | .n_behind => "behind"
  | .n_bound_of => "bound_of"
  | .n_calm => "calm"
  | .n_cell => "cell"
  | .n_cell_at => "cell_at"
  | .n_cells => "cells"
  | .n_cells_of => "cells_of"
  | .n_check => "check"
  | .n_check_behind => "check_behind"
  | .n_check_lap => "check_lap"
  | .n_check_swing => "check_swing"
  | .n_clash => "clash"
  | .n_clear => "clear"
  | .n_counts => "counts"
  | .n_dues_at => "dues_at"
  | .n_early => "early"
  | .n_end => "end"
  | .n_extend => "extend"
  | .n_first => "first"
  | .n_first_late => "first_late"
  | .n_first_wrong => "first_wrong"
  | .n_free_cell => "free_cell"
  | .n_from_ring => "from_ring"
  | .n_get => "get"
  | .n_go_by => "go_by"
  | .n_go_on => "go_on"
  | .n_gone_through => "gone_through"
  | .n_heap_put => "heap_put"
  | .n_heap_take => "heap_take"
  | .n_how_far => "how_far"
  | .n_in_time => "in_time"
  | .n_index => "index"
  | .n_innermost => "innermost"
  | .n_inward => "inward"
  | .n_join => "join"
  | .n_keeps_behind => "keeps_behind"
  | .n_kind => "kind"
  | .n_laid => "laid"
  | .n_lap => "lap"
  | .n_lap_beats => "lap_beats"
  | .n_last => "last"
  | .n_latest => "latest"
  | .n_law => "law"
  | .n_least_below => "least_below"
  | .n_least_of => "least_of"
  | .n_least_way => "least_way"
  | .n_left_behind => "left_behind"
  | .n_lies => "lies"
  | .n_looked_at => "looked_at"
  | .n_lying => "lying"
  | .n_many => "many"
  | .n_marks => "marks"
  | .n_may_be_next => "may_be_next"
  | .n_may_be_taken => "may_be_taken"
  | .n_moved => "moved"
  | .n_next_begin => "next_begin"
  | .n_next_taking => "next_taking"
  | .n_number => "number"
  | .n_number_in => "number_in"
  | .n_number_of => "number_of"
  | .n_numbered_stretch => "numbered_stretch"
  | .n_numbers_till => "numbers_till"
  | .n_one_number => "one_number"
  | .n_opened => "opened"
  | .n_orders => "orders"
  | .n_other => "other"
  | .n_pick => "pick"
  | .n_plain_cell => "plain_cell"
  | .n_plain_number => "plain_number"
  | .n_play => "play"
  | .n_pop => "pop"
  | .n_put_ask => "put_ask"
  | .n_rank => "rank"
  | .n_read_line => "read_line"
  | .n_read_tail => "read_tail"
  | .n_reading => "reading"
  | .n_remove => "remove"
  | .n_resting => "resting"
  | .n_reverse => "reverse"
  | .n_ring_counts => "ring_counts"
  | .n_rings => "rings"
  | .n_room => "room"
  | .n_row => "row"
  | .n_rows => "rows"
  | .n_rule_of => "rule_of"
  | .n_say => "say"
  | .n_settled => "settled"
  | .n_share_of => "share_of"
  | .n_shares => "shares"
  | .n_shares_bound => "shares_bound"
  | .n_shares_of => "shares_of"
  | .n_shares_row => "shares_row"
  | .n_shown => "shown"
  | .n_skew => "skew"
  | .n_spare => "spare"
  | .n_split => "split"
  | .n_stretch => "stretch"
  | .n_swing_of => "swing_of"
  | .n_swings => "swings"
  | .n_taken => "taken"
  | .n_taking => "taking"
  | .n_that_way => "that_way"
  | .n_told => "told"
  | .n_told_beats => "told_beats"
  | .n_total => "total"
  | .n_turn => "turn"
  | .n_turning => "turning"
  | .n_used => "used"
  | .n_waits => "waits"
  | .n_way => "way"
  | .n_way_end => "way_end"
  | .n_way_of => "way_of"
  | .n_when_told => "when_told"
  | .n_with_rest => "with_rest"
  | .n_writing => "writing"
def Nm.all : List Nm := [.n_ArmError, .n_Ask, .n_Careful, .n_Desk, .n_Due, .n_FIGURES, .n_First, .n_Latest, .n_Lift, .n_MANY, .n_MOST, .n_MOST_leastways, .n_MOST_plates, .n_Mended, .n_Nearest, .n_NoAsk, .n_NoBook, .n_NoCell, .n_NoLine, .n_NoOrder, .n_NoPlate, .n_NoRule, .n_NoSpare, .n_Plate, .n_Played, .n_Rule, .n_Shares, .n_Soonest, .n_Sweep, .n_TooMany, .n_UUinitUU, .n__law_again, .n__law_ahead, .n__law_all_refused, .n__law_all_told, .n__law_answers, .n__law_are_leaves, .n__law_ask, .n__law_askers, .n__law_asks, .n__law_at, .n__law_bad, .n__law_bad_line, .n__law_beat_word, .n__law_behind, .n__law_behind_way, .n__law_beside, .n__law_bound, .n__law_by_latest, .n__law_careful_right, .n__law_cell, .n__law_cell_at, .n__law_cells, .n__law_chain_right, .n__law_changed, .n__law_clash, .n__law_clashing, .n__law_classes, .n__law_counted, .n__law_counts, .n__law_covered, .n__law_cut, .n__law_desk, .n__law_draw, .n__law_drawn, .n__law_due, .n__law_eight_right, .n__law_ended, .n__law_ends, .n__law_ever, .n__law_first_wrong, .n__law_forms_refused, .n__law_free_ones, .n__law_full, .n__law_gone, .n__law_good, .n__law_in_time, .n__law_is_number, .n__law_is_order, .n__law_keeps, .n__law_kept, .n__law_known, .n__law_lap, .n__law_last, .n__law_later, .n__law_lies, .n__law_line, .n__law_made, .n__law_made_plate, .n__law_many_behind_right, .n__law_marks, .n__law_may, .n__law_mix, .n__law_no, .n__law_no_book, .n__law_no_line, .n__law_none_in_time, .n__law_number, .n__law_numbers, .n__law_odd, .n__law_of_class, .n__law_one_changed, .n__law_one_due, .n__law_orders, .n__law_other_word, .n__law_pairs, .n__law_parsed, .n__law_passed, .n__law_pick_right, .n__law_picks_alike, .n__law_plate, .n__law_play_right, .n__law_played, .n__law_reads, .n__law_refusals, .n__law_refused, .n__law_right, .n__law_rounds_right, .n__law_row, .n__law_row_known, .n__law_rows, .n__law_rule, .n__law_rule_text, .n__law_run, .n__law_safe, .n__law_same, .n__law_settled, .n__law_spec, .n__law_specs, .n__law_spoiled, .n__law_spot, .n__law_start, .n__law_stays, .n__law_stream, .n__law_swing, .n__law_tail, .n__law_taken, .n__law_text, .n__law_thing, .n__law_tight, .n__law_told, .n__law_told_text, .n__law_waiting, .n__law_walk, .n__law_walked, .n__law_way_text, .n__law_whole, .n__law_without, .n__law_word, .n__law_words, .n__law_written, .n__law_zones, .n__wall, .n_after_word, .n_all_dues, .n_anew, .n_answers, .n_answers_of, .n_append, .n_ask, .n_ask_number, .n_asked_shares, .n_asker, .n_at, .n_bad, .n_bad_numbers, .n_batch, .n_beats_of, .n_begins, .n_behind, .n_bound_of, .n_calm, .n_cell, .n_cell_at, .n_cells, .n_cells_of, .n_check, .n_check_behind, .n_check_lap, .n_check_swing, .n_clash, .n_clear, .n_counts, .n_dues_at, .n_early, .n_end, .n_extend, .n_first, .n_first_late, .n_first_wrong, .n_free_cell, .n_from_ring, .n_get, .n_go_by, .n_go_on, .n_gone_through, .n_heap_put, .n_heap_take, .n_how_far, .n_in_time, .n_index, .n_innermost, .n_inward, .n_join, .n_keeps_behind, .n_kind, .n_laid, .n_lap, .n_lap_beats, .n_last, .n_latest, .n_law, .n_least_below, .n_least_of, .n_least_way, .n_left_behind, .n_lies, .n_looked_at, .n_lying, .n_many, .n_marks, .n_may_be_next, .n_may_be_taken, .n_moved, .n_next_begin, .n_next_taking, .n_number, .n_number_in, .n_number_of, .n_numbered_stretch, .n_numbers_till, .n_one_number, .n_opened, .n_orders, .n_other, .n_pick, .n_plain_cell, .n_plain_number, .n_play, .n_pop, .n_put_ask, .n_rank, .n_read_line, .n_read_tail, .n_reading, .n_remove, .n_resting, .n_reverse, .n_ring_counts, .n_rings, .n_room, .n_row, .n_rows, .n_rule_of, .n_say, .n_settled, .n_share_of, .n_shares, .n_shares_bound, .n_shares_of, .n_shares_row, .n_shown, .n_skew, .n_spare, .n_split, .n_stretch, .n_swing_of, .n_swings, .n_taken, .n_taking, .n_that_way, .n_told, .n_told_beats, .n_total, .n_turn, .n_turning, .n_used, .n_waits, .n_way, .n_way_end, .n_way_of, .n_when_told, .n_with_rest, .n_writing]
def Nm.of (s : PySem.Str) : Option Nm := Nm.all.find? fun n => decide (n.str = s)
theorem Nm.all_mem (n : Nm) : n ∈ Nm.all := List.mem_of_getElem? (i := n.ctorIdx) (by cases n <;> rfl)
theorem Nm.of_all : ∀ n ∈ Nm.all, Nm.of n.str = some n := by decide +kernel
theorem Nm.str_inj {n f : Nm} (h : n.str = f.str) : n = f := by
  have h1 := Nm.of_all n (Nm.all_mem n)
  have h2 := Nm.of_all f (Nm.all_mem f)
  rw [h, h2] at h1
  exact (Option.some.inj h1).symm
end Pd
end
section
/-! Pd: values as trees, and how a tree lies in the tracked heap: frozen (in a part of the heap that stays) or owned (its mutable nodes at unlike addresses that nothing else names). -/
namespace Pd
open PySem L2

/-- a value without addresses -/
inductive D where
  | non | bl (b : Bool) | int (i : Int) | str (x : Str)
  | lst (xs : List D) | tup (xs : List D)
  /-- a list that is read only (the script) -/
  | frl (xs : List D)
  | dk (ks : List Key) (xs : List D) | dt (ks : List (List Key)) (xs : List D)
  | ins (C : Nm) (ns : List Nm) (xs : List D)
  | cls (C : Nm)
  /-- a caught exception -/
  | exc (C : Nm) (ns : List Nm) (xs : List D)
  /-- the place of what was lent -/
  | hole (v : V)
  /-- a dict that is walked -/
  | lkt (od : Obj) (kvs : List (List Key × V))

abbrev ca (K : PySem.W.Frag) (C : Nm) : Addr := He.ga K C.str

def Ex (H H' : Hp) : Prop := ∀ a o, H a = some o → H' a = some o
theorem Ex.refl (H : Hp) : Ex H H := fun _ _ h => h
theorem Ex.trans {H H1 H2 : Hp} (a : Ex H H1) (b : Ex H1 H2) : Ex H H2 := fun x o h => b x o (a x o h)
theorem Ex.new {H : Hp} {p : Addr} {o : HO} (h : H p = none) : Ex H (upd H p o) := fun a u e => by
  rw [upd_ne (ne_of_none e h)]; exact e
theorem Ex.none {H H' : Hp} {p : Addr} (e : Ex H H') (h : H' p = none) : H p = none := by
  cases h1 : H p with
  | none => rfl
  | some o => rw [e p o h1] at h; cases h
/-- an object that H does not know may change -/
theorem Ex.mut {H H' : Hp} {p : Addr} {o : HO} (e : Ex H H') (h : H p = Option.none) : Ex H (upd H' p o) := fun a u ha => by
  rw [upd_ne (ne_of_none ha h)]; exact e a u ha
theorem Ex.rd {H H' : Hp} {a : Addr} {u : HO} (e : Ex H H') (h : Rd H a u) : Rd H' a u := by
  rcases h with h | ⟨o, h⟩
  · exact .inl (e a _ h)
  · exact .inr ⟨o, e a _ h⟩
theorem Ex.sql {K : PySem.W.Frag} {H H' : Hp} {a : Addr} {xs : List V} (e : Ex H H') (h : SqL K H a xs) : SqL K H' a xs := by
  rcases h with h | h
  · exact .inl (e.rd h)
  · exact .inr h

/-! ### a tree in the heap -/
mutual
inductive Rp (K : PySem.W.Frag) (H : Hp) : V → D → Prop
  | non : Rp K H .non .non
  | bl (b : Bool) : Rp K H (.bl b) (.bl b)
  | int (i : Int) : Rp K H (.int i) (.int i)
  | str (x : Str) : Rp K H (.str x) (.str x)
  | lst {a : Addr} {vs : List V} {ds : List D} : H a = some (.lst vs) → RpL K H vs ds → Rp K H (.ref a) (.lst ds)
  | tup {a : Addr} {vs : List V} {ds : List D} : H a = some (.tup vs) → RpL K H vs ds → Rp K H (.ref a) (.tup ds)
  | frl {a : Addr} {vs : List V} {ds : List D} : SqL K H a vs → RpL K H vs ds → Rp K H (.ref a) (.frl ds)
  | dk {a : Addr} {ks : List Key} {vs : List V} {ds : List D} : H a = some (.dK (ks.zip vs)) → ks.length = vs.length → RpL K H vs ds → Rp K H (.ref a) (.dk ks ds)
  | dt {a : Addr} {ks : List (List Key)} {vs : List V} {ds : List D} : H a = some (.dT (ks.zip vs)) → ks.length = vs.length → RpL K H vs ds → Rp K H (.ref a) (.dt ks ds)
  | ins {a dx : Addr} {C : Nm} {ns : List Nm} {vs : List V} {ds : List D} : H a = some (.ins (ca K C) dx ((ns.map Nm.str).zip vs)) → ns.length = vs.length → RpL K H vs ds → Rp K H (.ref a) (.ins C ns ds)
  | cls (C : Nm) : Rp K H (.ref (ca K C)) (.cls C)
  | hole (v : V) : Rp K H v (.hole v)
  | lkt {a : Addr} {od : Obj} {kvs : List (List Key × V)} : H a = some (.frz od (.dT kvs)) → Rp K H (.ref a) (.lkt od kvs)
inductive RpL (K : PySem.W.Frag) (H : Hp) : List V → List D → Prop
  | nil : RpL K H [] []
  | cons {v : V} {vs : List V} {d : D} {ds : List D} : Rp K H v d → RpL K H vs ds → RpL K H (v :: vs) (d :: ds)
end
section
variable {K : PySem.W.Frag} {H H' : Hp}
mutual
theorem Rp.mono (e : Ex H H') : ∀ {v : V} {d : D}, Rp K H v d → Rp K H' v d
  | _, _, .non => .non
  | _, _, .bl b => .bl b
  | _, _, .int i => .int i
  | _, _, .str x => .str x
  | _, _, .lst h r => .lst (e _ _ h) (RpL.mono e r)
  | _, _, .tup h r => .tup (e _ _ h) (RpL.mono e r)
  | _, _, .frl h r => .frl (e.sql h) (RpL.mono e r)
  | _, _, .dk h l r => .dk (e _ _ h) l (RpL.mono e r)
  | _, _, .dt h l r => .dt (e _ _ h) l (RpL.mono e r)
  | _, _, .ins h l r => .ins (e _ _ h) l (RpL.mono e r)
  | _, _, .cls C => .cls C
  | _, _, .hole v => .hole v
  | _, _, .lkt h => .lkt (e _ _ h)
theorem RpL.mono (e : Ex H H') : ∀ {vs : List V} {ds : List D}, RpL K H vs ds → RpL K H' vs ds
  | _, _, .nil => .nil
  | _, _, .cons h r => .cons (Rp.mono e h) (RpL.mono e r)
end
theorem RpL.length : ∀ {vs : List V} {ds : List D}, RpL K H vs ds → vs.length = ds.length
  | _, _, .nil => rfl
  | _, _, .cons _ r => congrArg Nat.succ (RpL.length r)
theorem RpL.get : ∀ {vs : List V} {ds : List D} {i : Nat} {d : D}, RpL K H vs ds → ds[i]? = some d → ∃ v, vs[i]? = some v ∧ Rp K H v d
  | _, _, _, _, .nil, e => by simp at e
  | _, _, 0, _, .cons h _, e => by simp at e; subst e; exact ⟨_, rfl, h⟩
  | _, _, i + 1, _, .cons _ r, e => by
    obtain ⟨v, h1, h2⟩ := RpL.get (i := i) r (by simpa using e)
    exact ⟨v, by simpa using h1, h2⟩
theorem RpL.getV : ∀ {vs : List V} {ds : List D} {i : Nat} {v : V}, RpL K H vs ds → vs[i]? = some v → ∃ d, ds[i]? = some d ∧ Rp K H v d
  | _, _, _, _, .nil, e => by simp at e
  | _, _, 0, _, .cons h _, e => by simp at e; subst e; exact ⟨_, rfl, h⟩
  | _, _, i + 1, _, .cons _ r, e => by
    obtain ⟨v, h1, h2⟩ := RpL.getV (i := i) r (by simpa using e)
    exact ⟨v, by simpa using h1, h2⟩
theorem RpL.append : ∀ {vs ws : List V} {ds es : List D}, RpL K H vs ds → RpL K H ws es → RpL K H (vs ++ ws) (ds ++ es)
  | _, _, _, _, .nil, s => s
  | _, _, _, _, .cons h r, s => .cons h (RpL.append r s)
theorem RpL.set {v : V} {d : D} (h : Rp K H v d) : ∀ {vs : List V} {ds : List D} (i : Nat), RpL K H vs ds → RpL K H (vs.set i v) (ds.set i d)
  | _, _, _, .nil => .nil
  | _, _, 0, .cons _ r => .cons h r
  | _, _, i + 1, .cons g r => .cons g (RpL.set h i r)
theorem RpL.take : ∀ {vs : List V} {ds : List D} (n : Nat), RpL K H vs ds → RpL K H (vs.take n) (ds.take n)
  | _, _, 0, _ => .nil
  | _, _, _ + 1, .nil => .nil
  | _, _, n + 1, .cons h r => .cons h (RpL.take n r)
theorem RpL.drop : ∀ {vs : List V} {ds : List D} (n : Nat), RpL K H vs ds → RpL K H (vs.drop n) (ds.drop n)
  | _, _, 0, r => r
  | _, _, _ + 1, .nil => .nil
  | _, _, n + 1, .cons _ r => RpL.drop n r
theorem RpL.reverse : ∀ {vs : List V} {ds : List D}, RpL K H vs ds → RpL K H vs.reverse ds.reverse
  | _, _, .nil => .nil
  | _, _, .cons h r => by
    rw [List.reverse_cons, List.reverse_cons]
    exact (RpL.reverse r).append (.cons h .nil)
end

/-- a value that nobody can change: it needs no owner -/
def immut : D → Bool
  | .non => true | .bl _ => true | .int _ => true | .str _ => true | .tup _ => true | .frl _ => true | .cls _ => true | .hole _ => true
  | _ => false

/-! ### an owned tree: m levels of it are changeable, and lie at the addresses A -/
mutual
inductive Own (K : PySem.W.Frag) (Hz H : Hp) : Nat → V → D → List Addr → Prop
  | fz {m : Nat} {v : V} {d : D} : (m = 0 ∨ immut d = true) → Rp K Hz v d → Own K Hz H m v d []
  | lst {m : Nat} {a : Addr} {vs : List V} {ds : List D} {A : List Addr} : H a = some (.lst vs) → OwnL K Hz H m vs ds A → Own K Hz H (m + 1) (.ref a) (.lst ds) (a :: A)
  | dk {m : Nat} {a : Addr} {ks : List Key} {vs : List V} {ds : List D} {A : List Addr} : H a = some (.dK (ks.zip vs)) → ks.length = vs.length → OwnL K Hz H m vs ds A → Own K Hz H (m + 1) (.ref a) (.dk ks ds) (a :: A)
  | dt {m : Nat} {a : Addr} {ks : List (List Key)} {vs : List V} {ds : List D} {A : List Addr} : H a = some (.dT (ks.zip vs)) → ks.length = vs.length → OwnL K Hz H m vs ds A → Own K Hz H (m + 1) (.ref a) (.dt ks ds) (a :: A)
  | ins {m : Nat} {a dx : Addr} {C : Nm} {ns : List Nm} {vs : List V} {ds : List D} {A : List Addr} : H a = some (.ins (ca K C) dx ((ns.map Nm.str).zip vs)) → ns.length = vs.length → OwnL K Hz H m vs ds A → Own K Hz H (m + 1) (.ref a) (.ins C ns ds) (a :: A)
  | lkt {m : Nat} {a : Addr} {od : Obj} {kvs : List (List Key × V)} : H a = some (.frz od (.dT kvs)) → Own K Hz H (m + 1) (.ref a) (.lkt od kvs) [a]
inductive OwnL (K : PySem.W.Frag) (Hz H : Hp) : Nat → List V → List D → List Addr → Prop
  | nil {m : Nat} : OwnL K Hz H m [] [] []
  | cons {m : Nat} {v : V} {vs : List V} {d : D} {ds : List D} {A B : List Addr} : Own K Hz H m v d A → OwnL K Hz H m vs ds B → OwnL K Hz H m (v :: vs) (d :: ds) (A ++ B)
end
section
variable {K : PySem.W.Frag} {Hz Hz' H H' : Hp}
mutual
theorem Own.mono (ez : Ex Hz Hz') : ∀ {m : Nat} {v : V} {d : D} {A : List Addr}, (∀ a ∈ A, H' a = H a) → Own K Hz H m v d A → Own K Hz' H' m v d A
  | _, _, _, _, _, .fz c r => .fz c (r.mono ez)
  | _, _, _, _, k, .lst h r => .lst ((k _ List.mem_cons_self).trans h) (OwnL.mono ez (fun a ha => k a (List.mem_cons_of_mem _ ha)) r)
  | _, _, _, _, k, .dk h l r => .dk ((k _ List.mem_cons_self).trans h) l (OwnL.mono ez (fun a ha => k a (List.mem_cons_of_mem _ ha)) r)
  | _, _, _, _, k, .dt h l r => .dt ((k _ List.mem_cons_self).trans h) l (OwnL.mono ez (fun a ha => k a (List.mem_cons_of_mem _ ha)) r)
  | _, _, _, _, k, .ins h l r => .ins ((k _ List.mem_cons_self).trans h) l (OwnL.mono ez (fun a ha => k a (List.mem_cons_of_mem _ ha)) r)
  | _, _, _, _, k, .lkt h => .lkt ((k _ List.mem_cons_self).trans h)
theorem OwnL.mono (ez : Ex Hz Hz') : ∀ {m : Nat} {vs : List V} {ds : List D} {A : List Addr}, (∀ a ∈ A, H' a = H a) → OwnL K Hz H m vs ds A → OwnL K Hz' H' m vs ds A
  | _, _, _, _, _, .nil => .nil
  | _, _, _, _, k, .cons h r => .cons (Own.mono ez (fun a ha => k a (List.mem_append_left _ ha)) h) (OwnL.mono ez (fun a ha => k a (List.mem_append_right _ ha)) r)
end
mutual
/-- each of the addresses is tracked -/
theorem Own.there : ∀ {m : Nat} {v : V} {d : D} {A : List Addr}, Own K Hz H m v d A → ∀ a ∈ A, ∃ o, H a = some o
  | _, _, _, _, .fz _ _, a, ha => absurd ha (by simp)
  | _, _, _, _, .lst h r, a, ha => (List.mem_cons.mp ha).elim (fun e => ⟨_, e ▸ h⟩) (OwnL.there r a)
  | _, _, _, _, .dk h _ r, a, ha => (List.mem_cons.mp ha).elim (fun e => ⟨_, e ▸ h⟩) (OwnL.there r a)
  | _, _, _, _, .dt h _ r, a, ha => (List.mem_cons.mp ha).elim (fun e => ⟨_, e ▸ h⟩) (OwnL.there r a)
  | _, _, _, _, .ins h _ r, a, ha => (List.mem_cons.mp ha).elim (fun e => ⟨_, e ▸ h⟩) (OwnL.there r a)
  | _, _, _, _, .lkt h, a, ha => ⟨_, (List.mem_singleton.mp ha) ▸ h⟩
theorem OwnL.there : ∀ {m : Nat} {vs : List V} {ds : List D} {A : List Addr}, OwnL K Hz H m vs ds A → ∀ a ∈ A, ∃ o, H a = some o
  | _, _, _, _, .nil, a, ha => absurd ha (by simp)
  | _, _, _, _, .cons h r, a, ha => (List.mem_append.mp ha).elim (Own.there h a) (OwnL.there r a)
end
mutual
/-- what is owned is a tree of the heap -/
theorem Own.rp (e : Ex Hz H) : ∀ {m : Nat} {v : V} {d : D} {A : List Addr}, Own K Hz H m v d A → Rp K H v d
  | _, _, _, _, .fz _ r => r.mono e
  | _, _, _, _, .lst h r => .lst h (OwnL.rp e r)
  | _, _, _, _, .dk h l r => .dk h l (OwnL.rp e r)
  | _, _, _, _, .dt h l r => .dt h l (OwnL.rp e r)
  | _, _, _, _, .ins h l r => .ins h l (OwnL.rp e r)
  | _, _, _, _, .lkt h => .lkt h
theorem OwnL.rp (e : Ex Hz H) : ∀ {m : Nat} {vs : List V} {ds : List D} {A : List Addr}, OwnL K Hz H m vs ds A → RpL K H vs ds
  | _, _, _, _, .nil => .nil
  | _, _, _, _, .cons h r => .cons (Own.rp e h) (OwnL.rp e r)
end
theorem Own.zero {v : V} {d : D} {A : List Addr} (h : Own K Hz H 0 v d A) : A = [] ∧ Rp K Hz v d := by
  cases h with
  | fz _ r => exact ⟨rfl, r⟩
theorem OwnL.zero : ∀ {vs : List V} {ds : List D} {A : List Addr}, OwnL K Hz H 0 vs ds A → A = [] ∧ RpL K Hz vs ds
  | _, _, _, .nil => ⟨rfl, .nil⟩
  | _, _, _, .cons h r => by
    obtain ⟨rfl, h1⟩ := h.zero
    obtain ⟨rfl, h2⟩ := OwnL.zero r
    exact ⟨rfl, .cons h1 h2⟩
theorem Own.imm {m : Nat} {v : V} {d : D} {A : List Addr} (i : immut d = true) (h : Own K Hz H m v d A) : A = [] ∧ Rp K Hz v d := by
  cases h with
  | fz _ r => exact ⟨rfl, r⟩
  | lst => cases i
  | dk => cases i
  | dt => cases i
  | ins => cases i
  | lkt => cases i
theorem OwnL.of_zero (m : Nat) : ∀ {vs : List V} {ds : List D}, RpL K Hz vs ds → OwnL K Hz H 0 vs ds []
  | _, _, .nil => .nil
  | _, _, .cons h r => OwnL.cons (A := []) (B := []) (.fz (.inl rfl) h) (OwnL.of_zero m r)
theorem OwnL.length : ∀ {m : Nat} {vs : List V} {ds : List D} {A : List Addr}, OwnL K Hz H m vs ds A → vs.length = ds.length
  | _, _, _, _, .nil => rfl
  | _, _, _, _, .cons _ r => congrArg Nat.succ (OwnL.length r)
theorem OwnL.append : ∀ {m : Nat} {vs ws : List V} {ds es : List D} {A B : List Addr}, OwnL K Hz H m vs ds A → OwnL K Hz H m ws es B → OwnL K Hz H m (vs ++ ws) (ds ++ es) (A ++ B)
  | _, _, _, _, _, _, _, .nil, s => s
  | _, _, _, _, _, _, _, .cons (A := A) (B := B) h r, s => by
    rw [List.append_assoc]
    exact .cons h (OwnL.append r s)

/-- the frozen part grows by what the addresses hold -/
def grow (Hz H : Hp) (A : List Addr) : Hp := fun a => if a ∈ A then H a else Hz a
theorem grow_in {A : List Addr} {a : Addr} (h : a ∈ A) : grow Hz H A a = H a := if_pos h
theorem grow_out {A : List Addr} {a : Addr} (h : a ∉ A) : grow Hz H A a = Hz a := if_neg h
theorem grow_ex {A : List Addr} (h : ∀ a ∈ A, Hz a = none) : Ex Hz (grow Hz H A) := fun a o e => by
  rw [grow_out (fun z => by rw [h a z] at e; cases e)]; exact e
theorem grow_le {A : List Addr} (e : Ex Hz H) : Ex (grow Hz H A) H := fun a o h => by
  by_cases z : a ∈ A
  · rw [grow_in z] at h; exact h
  · rw [grow_out z] at h; exact e a o h
mutual
/-- frozen whole -/
theorem Own.frozen (ez : Ex Hz Hz') : ∀ {m : Nat} {v : V} {d : D} {A : List Addr}, (∀ a ∈ A, Hz' a = H a) → Own K Hz H m v d A → Rp K Hz' v d
  | _, _, _, _, _, .fz _ r => r.mono ez
  | _, _, _, _, k, .lst h r => .lst ((k _ List.mem_cons_self).trans h) (OwnL.frozen ez (fun a ha => k a (List.mem_cons_of_mem _ ha)) r)
  | _, _, _, _, k, .dk h l r => .dk ((k _ List.mem_cons_self).trans h) l (OwnL.frozen ez (fun a ha => k a (List.mem_cons_of_mem _ ha)) r)
  | _, _, _, _, k, .dt h l r => .dt ((k _ List.mem_cons_self).trans h) l (OwnL.frozen ez (fun a ha => k a (List.mem_cons_of_mem _ ha)) r)
  | _, _, _, _, k, .ins h l r => .ins ((k _ List.mem_cons_self).trans h) l (OwnL.frozen ez (fun a ha => k a (List.mem_cons_of_mem _ ha)) r)
  | _, _, _, _, k, .lkt h => .lkt ((k _ List.mem_cons_self).trans h)
theorem OwnL.frozen (ez : Ex Hz Hz') : ∀ {m : Nat} {vs : List V} {ds : List D} {A : List Addr}, (∀ a ∈ A, Hz' a = H a) → OwnL K Hz H m vs ds A → RpL K Hz' vs ds
  | _, _, _, _, _, .nil => .nil
  | _, _, _, _, k, .cons h r => .cons (Own.frozen ez (fun a ha => k a (List.mem_append_left _ ha)) h) (OwnL.frozen ez (fun a ha => k a (List.mem_append_right _ ha)) r)
end
/-- the owned levels are cut to j: B stays owned, F is frozen -/
def Cut (K : PySem.W.Frag) (Hz H : Hp) (j : Nat) (v : V) (d : D) (A : List Addr) : Prop :=
  ∃ B F : List Addr, A.Perm (B ++ F) ∧ ∀ Hz', Ex Hz Hz' → (∀ a ∈ F, Hz' a = H a) → Own K Hz' H j v d B
def CutL (K : PySem.W.Frag) (Hz H : Hp) (j : Nat) (vs : List V) (ds : List D) (A : List Addr) : Prop :=
  ∃ B F : List Addr, A.Perm (B ++ F) ∧ ∀ Hz', Ex Hz Hz' → (∀ a ∈ F, Hz' a = H a) → OwnL K Hz' H j vs ds B
theorem Cut.whole {m : Nat} {v : V} {d : D} {A : List Addr} (h : Own K Hz H m v d A) : Cut K Hz H 0 v d A :=
  ⟨[], A, List.Perm.refl _, fun Hz' ez k => .fz (.inl rfl) (h.frozen ez k)⟩
mutual
theorem Own.cut : ∀ {m : Nat} (j : Nat) {v : V} {d : D} {A : List Addr}, j ≤ m → Own K Hz H m v d A → Cut K Hz H j v d A
  | _, j, _, _, _, hj, .fz c r => ⟨[], [], List.Perm.refl _, fun Hz' ez _ => .fz (c.imp (fun e => by omega) id) (r.mono ez)⟩
  | _, 0, _, _, _, _, .lst h r => Cut.whole (.lst h r)
  | _, 0, _, _, _, _, .dk h l r => Cut.whole (.dk h l r)
  | _, 0, _, _, _, _, .dt h l r => Cut.whole (.dt h l r)
  | _, 0, _, _, _, _, .ins h l r => Cut.whole (.ins h l r)
  | _, 0, _, _, _, _, .lkt h => Cut.whole (m := 1) (.lkt h)
  | _, j + 1, _, _, _, hj, .lkt h => ⟨[_], [], List.Perm.refl _, fun Hz' ez k => .lkt h⟩
  | _, j + 1, _, _, _, hj, .lst h r => by
    obtain ⟨B, F, p, q⟩ := OwnL.cut j (by omega) r
    exact ⟨_ :: B, F, p.cons _, fun Hz' ez k => .lst h (q Hz' ez k)⟩
  | _, j + 1, _, _, _, hj, .dk h l r => by
    obtain ⟨B, F, p, q⟩ := OwnL.cut j (by omega) r
    exact ⟨_ :: B, F, p.cons _, fun Hz' ez k => .dk h l (q Hz' ez k)⟩
  | _, j + 1, _, _, _, hj, .dt h l r => by
    obtain ⟨B, F, p, q⟩ := OwnL.cut j (by omega) r
    exact ⟨_ :: B, F, p.cons _, fun Hz' ez k => .dt h l (q Hz' ez k)⟩
  | _, j + 1, _, _, _, hj, .ins h l r => by
    obtain ⟨B, F, p, q⟩ := OwnL.cut j (by omega) r
    exact ⟨_ :: B, F, p.cons _, fun Hz' ez k => .ins h l (q Hz' ez k)⟩
theorem OwnL.cut : ∀ {m : Nat} (j : Nat) {vs : List V} {ds : List D} {A : List Addr}, j ≤ m → OwnL K Hz H m vs ds A → CutL K Hz H j vs ds A
  | _, j, _, _, _, hj, .nil => ⟨[], [], List.Perm.refl _, fun _ _ _ => .nil⟩
  | _, j, _, _, _, hj, .cons h r => by
    obtain ⟨B, F, p, q⟩ := Own.cut j hj h
    obtain ⟨B', F', p', q'⟩ := OwnL.cut j hj r
    refine ⟨B ++ B', F ++ F', ?_, fun Hz' ez k => .cons (q Hz' ez fun a ha => k a (List.mem_append_left _ ha)) (q' Hz' ez fun a ha => k a (List.mem_append_right _ ha))⟩
    refine (p.append p').trans ?_
    rw [List.append_assoc, List.append_assoc, ← List.append_assoc F B' F', ← List.append_assoc B' F F']
    exact (List.perm_append_comm.append_right _).append_left _
end
end

/-! ### entries -/
structure Ent where
  v : V
  m : Nat
  d : D
inductive OwnE (K : PySem.W.Frag) (Hz H : Hp) : List Ent → List Addr → Prop
  | nil : OwnE K Hz H [] []
  | cons {e : Ent} {es : List Ent} {A B : List Addr} : Own K Hz H e.m e.v e.d A → OwnE K Hz H es B → OwnE K Hz H (e :: es) (A ++ B)
/-- the entries lie in H: the frozen parts in Hz, the owned ones apart from it and from one another -/
structure R (K : PySem.W.Frag) (es : List Ent) (Hz H : Hp) : Prop where
  ex : Ex Hz H
  own : ∃ A, OwnE K Hz H es A ∧ A.Nodup ∧ ∀ a ∈ A, Hz a = none
section
variable {K : PySem.W.Frag} {Hz Hz' H H' : Hp} {e : Ent} {es fs : List Ent}
theorem OwnE.mono (ez : Ex Hz Hz') : ∀ {es : List Ent} {A : List Addr}, (∀ a ∈ A, H' a = H a) → OwnE K Hz H es A → OwnE K Hz' H' es A
  | _, _, _, .nil => .nil
  | _, _, k, .cons h r => .cons (Own.mono ez (fun a ha => k a (List.mem_append_left _ ha)) h) (OwnE.mono ez (fun a ha => k a (List.mem_append_right _ ha)) r)
theorem OwnE.there : ∀ {es : List Ent} {A : List Addr}, OwnE K Hz H es A → ∀ a ∈ A, ∃ o, H a = some o
  | _, _, .nil, a, ha => absurd ha (by simp)
  | _, _, .cons h r, a, ha => (List.mem_append.mp ha).elim (h.there a) (OwnE.there r a)
theorem OwnE.perm {es fs : List Ent} (p : es.Perm fs) : ∀ {A : List Addr}, OwnE K Hz H es A → ∃ B, OwnE K Hz H fs B ∧ A.Perm B := by
  induction p with
  | nil => intro A h; exact ⟨A, h, List.Perm.refl _⟩
  | cons x _ ih =>
    intro A h
    cases h with
    | cons h r =>
      obtain ⟨B, b, q⟩ := ih r
      exact ⟨_, .cons h b, q.append_left _⟩
  | swap x y l =>
    intro A h
    cases h with
    | cons h r =>
      cases r with
      | cons h2 r =>
        refine ⟨_, .cons h2 (.cons h r), ?_⟩
        rw [← List.append_assoc, ← List.append_assoc]
        exact List.perm_append_comm.append_right _
  | trans _ _ ih1 ih2 =>
    intro A h
    obtain ⟨B, b, q⟩ := ih1 h
    obtain ⟨C, c, q2⟩ := ih2 b
    exact ⟨C, c, q.trans q2⟩
theorem R.perm (h : R K es Hz H) (p : es.Perm fs) : R K fs Hz H := by
  obtain ⟨ex, A, o, n, z⟩ := h
  obtain ⟨B, b, q⟩ := o.perm p
  exact ⟨ex, B, b, q.nodup_iff.mp n, fun a ha => z a (q.mem_iff.mpr ha)⟩
theorem R.tail (h : R K (e :: es) Hz H) : R K es Hz H := by
  obtain ⟨ex, A, o, n, z⟩ := h
  cases o with
  | cons h r => exact ⟨ex, _, r, (List.nodup_append.mp n).2.1, fun a ha => z a (List.mem_append_right _ ha)⟩
theorem OwnE.append : ∀ {es fs : List Ent} {A B : List Addr}, OwnE K Hz H es A → OwnE K Hz H fs B → OwnE K Hz H (es ++ fs) (A ++ B)
  | _, _, _, _, .nil, s => s
  | _, _, _, _, .cons (A := A) (B := B) h r, s => by
    rw [List.append_assoc]
    exact .cons h (OwnE.append r s)
theorem R.right : ∀ {es : List Ent}, R K (es ++ fs) Hz H → R K fs Hz H
  | [], h => h
  | e :: es, h => R.right (es := es) h.tail
/-- an entry without addresses -/
theorem R.put {m : Nat} {v : V} {d : D} (c : m = 0 ∨ immut d = true) (r : Rp K Hz v d) (h : R K es Hz H) : R K (⟨v, m, d⟩ :: es) Hz H := by
  obtain ⟨ex, A, o, n, z⟩ := h
  exact ⟨ex, _, .cons (A := []) (.fz c r) o, n, z⟩
theorem R.head (h : R K (e :: es) Hz H) : ∃ A, Own K Hz H e.m e.v e.d A := by
  obtain ⟨ex, A, o, n, z⟩ := h
  cases o with
  | cons h r => exact ⟨_, h⟩
theorem R.rp (h : R K (e :: es) Hz H) : Rp K H e.v e.d := by
  obtain ⟨A, a⟩ := h.head
  exact a.rp h.ex
theorem R.rp0 {v : V} {d : D} (h : R K (⟨v, 0, d⟩ :: es) Hz H) : Rp K Hz v d := by
  obtain ⟨A, a⟩ := h.head
  exact a.zero.2
theorem R.imm {v : V} {m : Nat} {d : D} (i : immut d = true) (h : R K (⟨v, m, d⟩ :: es) Hz H) : Rp K Hz v d := by
  obtain ⟨A, a⟩ := h.head
  exact (a.imm i).2
/-- all of the heap but what is owned may have grown; the frozen part too -/
theorem R.keep (h : R K es Hz H) (ez : Ex Hz Hz') (e : Ex Hz' H') (k : ∀ a o, H a = some o → Hz' a = none → H' a = some o) (d : ∀ a, Hz a = none → (∃ o, H a = some o) → Hz' a = none) : R K es Hz' H' := by
  obtain ⟨ex, A, o, n, z⟩ := h
  have kk : ∀ a ∈ A, H' a = H a := fun a ha => by
    obtain ⟨ob, q⟩ := o.there a ha
    rw [q]
    exact k a ob q (d a (z a ha) ⟨ob, q⟩)
  exact ⟨e, A, o.mono ez kk, n, fun a ha => d a (z a ha) (o.there a ha)⟩
/-- the heap has grown -/
theorem R.ext (h : R K es Hz H) (e : Ex H H') : R K es Hz H' := h.keep (Ex.refl _) (h.ex.trans e) (fun a o q _ => e a o q) fun a z _ => z
/-- the head entry with fewer owned levels -/
theorem R.weaken {v : V} {m : Nat} {d : D} (j : Nat) (hj : j ≤ m ∨ immut d = true) (h : R K (⟨v, m, d⟩ :: es) Hz H) : ∃ Hz', Ex Hz Hz' ∧ R K (⟨v, j, d⟩ :: es) Hz' H := by
  obtain ⟨ex, A, o, n, z⟩ := h
  cases o with
  | @cons _ _ A B h r =>
    by_cases i : immut d = true
    · obtain ⟨q1, q2⟩ := h.imm i
      subst q1
      exact ⟨Hz, Ex.refl _, ex, _, .cons (A := []) (.fz (.inr i) q2) r, n, z⟩
    · obtain ⟨C, F, p, q⟩ := h.cut j (hj.elim id fun w => absurd w i)
      have p2 : (A ++ B).Perm (F ++ (C ++ B)) := by
        refine (p.append_right B).trans ?_
        rw [← List.append_assoc]
        exact List.perm_append_comm.append_right _
      have n2 := p2.nodup_iff.mp n
      obtain ⟨n3, n4, n5⟩ := List.nodup_append.mp n2
      have zF : ∀ a ∈ F, Hz a = none := fun a ha => z a (p2.mem_iff.mpr (List.mem_append_left _ ha))
      refine ⟨grow Hz H F, grow_ex zF, grow_le ex, C ++ B, .cons (q _ (grow_ex zF) fun a ha => grow_in ha) (r.mono (grow_ex zF) fun _ _ => rfl), n4, fun a ha => ?_⟩
      rw [grow_out fun w => n5 a w a ha rfl]
      exact z a (p2.mem_iff.mpr (List.mem_append_right _ ha))
/-- a new object, its children what stood at the front -/
theorem R.alloc {p : Addr} {o : HO} {m : Nat} {d : D} {fs : List Ent} (h : R K (fs ++ es) Hz H) (hp : H p = none)
    (mk : ∀ A, OwnE K Hz (upd H p o) fs A → Own K Hz (upd H p o) (m + 1) (.ref p) d (p :: A)) : R K (⟨.ref p, m + 1, d⟩ :: es) Hz (upd H p o) := by
  obtain ⟨ex, A, o', n, z⟩ := h
  have sp : ∀ {fs : List Ent} {A : List Addr}, OwnE K Hz H (fs ++ es) A → ∃ B C, A = B ++ C ∧ OwnE K Hz H fs B ∧ OwnE K Hz H es C := by
    intro fs
    induction fs with
    | nil => intro A h; exact ⟨[], A, rfl, .nil, h⟩
    | cons e fs ih =>
      intro A h
      cases h with
      | cons h r =>
        obtain ⟨B, C, rfl, b, c⟩ := ih r
        exact ⟨_, C, by rw [List.append_assoc], .cons h b, c⟩
  obtain ⟨B, C, rfl, b, c⟩ := sp o'
  have out : ∀ {L : List Ent} {A : List Addr}, OwnE K Hz H L A → ∀ a ∈ A, upd H p o a = H a := fun hL a ha => by
    obtain ⟨ob, q⟩ := hL.there a ha
    exact upd_ne (ne_of_none q hp)
  have pn : p ∉ B ++ C := fun hm => by
    obtain ⟨ob, q⟩ := o'.there p hm
    rw [hp] at q; cases q
  refine ⟨ex.trans (Ex.new hp), _, .cons (mk B (b.mono (Ex.refl _) (out b))) (c.mono (Ex.refl _) (out c)), ?_, fun a ha => ?_⟩
  · rw [List.cons_append]
    exact List.nodup_cons.mpr ⟨pn, n⟩
  · rw [List.cons_append] at ha
    rcases List.mem_cons.mp ha with e | ha
    · rw [e]; exact ex.none hp
    · exact z a ha
/-- a new immutable object: it is frozen at once -/
theorem R.allocZ {p : Addr} {o : HO} (h : R K es Hz H) (hp : H p = none) : Ex Hz (upd Hz p o) ∧ R K es (upd Hz p o) (upd H p o) := by
  have hz : Hz p = none := h.ex.none hp
  refine ⟨Ex.new hz, h.keep (Ex.new hz) (fun a ob q => ?_) (fun a ob q _ => ?_) fun a z ⟨ob, q⟩ => ?_⟩
  · by_cases e : a = p
    · subst e; rw [upd_same] at q ⊢; exact q
    · rw [upd_ne e] at q ⊢; exact h.ex a ob q
  · rw [upd_ne (ne_of_none q hp)]; exact q
  · rw [upd_ne (ne_of_none q hp)]; exact z
/-- the owned object of the head entry is changed -/
theorem R.change {a : Addr} {o : HO} {v : V} {m : Nat} {d d' : D} {fs : List Ent} {B : List Addr} (h : R K (⟨v, m, d⟩ :: (fs ++ es)) Hz H) (ha : Own K Hz H m v d (a :: B))
    (mk : ∀ A C, Own K Hz H m v d A → OwnE K Hz H fs C → (A ++ C).Nodup → (∀ b ∈ A ++ C, Hz b = none) → ∃ A', A'.Sublist (A ++ C) ∧ Own K Hz (upd H a o) m v d' A' ∧ a ∈ A ∧ a ∉ C) : R K (⟨v, m, d'⟩ :: es) Hz (upd H a o) := by
  obtain ⟨ex, A, o', n, z⟩ := h
  cases o' with
  | @cons _ _ A1 B1 h r =>
    have sp : ∀ {fs : List Ent} {A : List Addr}, OwnE K Hz H (fs ++ es) A → ∃ B C, A = B ++ C ∧ OwnE K Hz H fs B ∧ OwnE K Hz H es C := by
      intro fs
      induction fs with
      | nil => intro A h; exact ⟨[], A, rfl, .nil, h⟩
      | cons e fs ih =>
        intro A h
        cases h with
        | cons h r =>
          obtain ⟨B, C, rfl, b, c⟩ := ih r
          exact ⟨_, C, by rw [List.append_assoc], .cons h b, c⟩
    obtain ⟨B2, C2, rfl, b, c⟩ := sp r
    rw [← List.append_assoc] at n z
    obtain ⟨n1, n2, n3⟩ := List.nodup_append.mp n
    obtain ⟨A', sub, own, inA, _⟩ := mk A1 B2 h b n1 fun x hx => z x (List.mem_append_left _ hx)
    have ac : a ∉ C2 := fun hm => n3 a (List.mem_append_left _ inA) a hm rfl
    have hz : Hz a = none := z a (List.mem_append_left _ (List.mem_append_left _ inA))
    refine ⟨ex.mut hz, A' ++ C2, .cons own (c.mono (Ex.refl _) fun x hx => upd_ne fun e => ac (e ▸ hx)), ?_, fun x hx => ?_⟩
    · exact n.sublist (sub.append_right _)
    · rcases List.mem_append.mp hx with q | q
      · exact z x (List.mem_append_left _ (sub.subset q))
      · exact z x (List.mem_append_right _ q)
end
end Pd
end
section
/-! Pd: what an expression, a statement comes to on trees; and what that says of the machine. -/
namespace Pd
open PySem L2

/-- a value at hand: q levels are changeable; b: they are another's (a variable's), who may be asked but not handed on -/
structure RV where
  q : Nat
  b : Bool
  d : D
abbrev Slot := Option (Nat × D)
abbrev Vr := List Slot
inductive RE where
  | ok (x : RV) (ρ : Vr)
  | exc (C : Nm) (ns : List Nm) (xs : List D) (ρ : Vr)
  | stuck
inductive RS where
  | nx (ρ : Vr)
  | rt (x : RV) (ρ : Vr)
  | bk (ρ : Vr)
  | ct (ρ : Vr)
  | exc (C : Nm) (ns : List Nm) (xs : List D) (ρ : Vr)
  | stuck
inductive RC where
  | ok (x : RV) (outs : List Slot)
  | exc (C : Nm) (ns : List Nm) (xs : List D)
  | stuck
abbrev EF := Vr → RE
abbrev SF := Vr → RS
@[simp] def RE.bind (r : RE) (f : RV → EF) : RE := match r with
  | .ok x ρ => f x ρ
  | .exc C ns xs ρ => .exc C ns xs ρ
  | .stuck => .stuck
@[simp] def RE.bindS (r : RE) (f : RV → SF) : RS := match r with
  | .ok x ρ => f x ρ
  | .exc C ns xs ρ => .exc C ns xs ρ
  | .stuck => .stuck
/-- a value that nobody can change -/
abbrev pureV (d : D) : RV := ⟨0, false, d⟩

inductive Slots : L2.St → Vr → List Ent → Prop
  | nil : Slots [] [] []
  | no {x : Option V} {σ : L2.St} {ρ : Vr} {es : List Ent} : Slots σ ρ es → Slots (x :: σ) (none :: ρ) es
  | so {v : V} {m : Nat} {d : D} {σ : L2.St} {ρ : Vr} {es : List Ent} : Slots σ ρ es → Slots (some v :: σ) (some (m, d) :: ρ) (⟨v, m, d⟩ :: es)
theorem Slots.len : ∀ {σ : L2.St} {ρ : Vr} {es : List Ent}, Slots σ ρ es → σ.length = ρ.length
  | _, _, _, .nil => rfl
  | _, _, _, .no h => congrArg Nat.succ (Slots.len h)
  | _, _, _, .so h => congrArg Nat.succ (Slots.len h)
theorem Slots.take : ∀ {σ : L2.St} {ρ : Vr} {es : List Ent} {i : Nat} {m : Nat} {d : D}, Slots σ ρ es → ρ[i]? = some (some (m, d)) →
    ∃ v es', σ[i]? = some (some v) ∧ es.Perm (⟨v, m, d⟩ :: es') ∧ Slots σ (ρ.set i none) es'
  | _, _, _, _, _, _, .nil, e => by simp at e
  | _, _, _, 0, _, _, .no _, e => by simp at e
  | _, _, _, 0, _, _, .so h, e => by
    simp at e
    obtain ⟨rfl, rfl⟩ := e
    exact ⟨_, _, rfl, List.Perm.refl _, .no h⟩
  | _, _, _, i + 1, _, _, .no h, e => by
    obtain ⟨v, es', h1, h2, h3⟩ := Slots.take (i := i) h (by simpa using e)
    exact ⟨v, es', by simpa using h1, h2, .no h3⟩
  | _, _, _, i + 1, _, _, .so h, e => by
    obtain ⟨v, es', h1, h2, h3⟩ := Slots.take (i := i) h (by simpa using e)
    exact ⟨v, _, by simpa using h1, (h2.cons _).trans (List.Perm.swap _ _ _), .so h3⟩
theorem Slots.put {v : V} {m : Nat} {d : D} : ∀ {σ : L2.St} {ρ : Vr} {es : List Ent} {i : Nat}, Slots σ ρ es → ρ[i]? = some none → σ[i]? = some (some v) →
    ∃ es', Slots σ (ρ.set i (some (m, d))) es' ∧ es'.Perm (⟨v, m, d⟩ :: es)
  | _, _, _, _, .nil, e, _ => by simp at e
  | _, _, _, 0, .no h, _, e2 => by
    simp at e2
    subst e2
    exact ⟨_, .so h, List.Perm.refl _⟩
  | _, _, _, 0, .so _, e, _ => by simp at e
  | _, _, _, i + 1, .no h, e, e2 => by
    obtain ⟨es', h1, h2⟩ := Slots.put (i := i) h (by simpa using e) (by simpa using e2)
    exact ⟨es', .no h1, h2⟩
  | _, _, _, i + 1, .so h, e, e2 => by
    obtain ⟨es', h1, h2⟩ := Slots.put (i := i) h (by simpa using e) (by simpa using e2)
    exact ⟨_, .so h1, (h2.cons _).trans (List.Perm.swap _ _ _)⟩
/-- a slot is stored: what it held is dropped -/
theorem Slots.store {v : V} {m : Nat} {d : D} : ∀ {σ : L2.St} {ρ : Vr} {es : List Ent} {i : Nat}, Slots σ ρ es → i < ρ.length →
    ∃ es1 dr es', Slots (σ.set i (some v)) (ρ.set i (some (m, d))) es' ∧ es'.Perm (⟨v, m, d⟩ :: es1) ∧ es.Perm (dr ++ es1)
  | _, _, _, _, .nil, e => by simp at e
  | _, _, _, 0, .no h, _ => ⟨_, [], _, .so h, List.Perm.refl _, List.Perm.refl _⟩
  | _, _, _, 0, .so h, _ => ⟨_, [_], _, .so h, List.Perm.refl _, List.Perm.refl _⟩
  | _, _, _, i + 1, .no h, e => by
    obtain ⟨es1, dr, es', h1, h2, h3⟩ := Slots.store (i := i) h (by simpa using e)
    exact ⟨es1, dr, es', .no h1, h2, h3⟩
  | _, _, _, i + 1, .so (v := w) (m := n) (d := c) h, e => by
    obtain ⟨es1, dr, es', h1, h2, h3⟩ := Slots.store (i := i) h (by simpa using e)
    exact ⟨⟨w, n, c⟩ :: es1, dr, _, .so h1, (h2.cons _).trans (List.Perm.swap _ _ _), (h3.cons _).trans List.perm_middle.symm⟩
/-- a slot is forgotten -/
theorem Slots.drop {x : Option V} : ∀ {σ : L2.St} {ρ : Vr} {es : List Ent} {i : Nat}, Slots σ ρ es → ∃ es' dr, Slots (σ.set i x) (ρ.set i none) es' ∧ es.Perm (dr ++ es')
  | _, _, _, _, .nil => ⟨[], [], .nil, List.Perm.refl _⟩
  | _, _, _, 0, .no h => ⟨_, [], .no h, List.Perm.refl _⟩
  | _, _, _, 0, .so h => ⟨_, [_], .no h, List.Perm.refl _⟩
  | _, _, _, i + 1, .no h => by
    obtain ⟨es', dr, h1, h2⟩ := Slots.drop (x := x) (i := i) h
    exact ⟨es', dr, .no h1, h2⟩
  | _, _, _, i + 1, .so (v := w) (m := n) (d := c) h => by
    obtain ⟨es', dr, h1, h2⟩ := Slots.drop (x := x) (i := i) h
    exact ⟨⟨w, n, c⟩ :: es', dr, .so h1, (h2.cons _).trans List.perm_middle.symm⟩

section
variable {K : PySem.W.Frag} {Hz Hz' H H' : Hp} {es fs Fr : List Ent} {v : V} {x : RV}
/-- the value at hand lies there -/
def View (K : PySem.W.Frag) (Hz H : Hp) (v : V) (x : RV) : Prop := ∃ A, Own K Hz H x.q v x.d A
def RVok (K : PySem.W.Frag) (Hz H : Hp) (v : V) (x : RV) (es : List Ent) : Prop := if x.b = true then R K es Hz H ∧ View K Hz H v x else R K (⟨v, x.q, x.d⟩ :: es) Hz H
theorem RVok.rest (h : RVok K Hz H v x es) : R K es Hz H := by
  unfold RVok at h
  split at h
  · exact h.1
  · exact h.tail
theorem RVok.view (h : RVok K Hz H v x es) : View K Hz H v x := by
  unfold RVok at h
  split at h
  · exact h.2
  · exact h.head
theorem RVok.own (h : RVok K Hz H v x es) (hb : x.b = false) : R K (⟨v, x.q, x.d⟩ :: es) Hz H := by
  unfold RVok at h
  rw [hb] at h
  exact h
theorem RVok.of (hb : x.b = false) (h : R K (⟨v, x.q, x.d⟩ :: es) Hz H) : RVok K Hz H v x es := by
  unfold RVok
  rw [hb]
  exact h
theorem RVok.pure {d : D} (r : Rp K Hz v d) (h : R K es Hz H) : RVok K Hz H v (pureV d) es := .of rfl (h.put (.inl rfl) r)
theorem RVok.perm (h : RVok K Hz H v x es) (p : es.Perm fs) : RVok K Hz H v x fs := by
  unfold RVok at h ⊢
  split at h
  · rename_i hb; rw [if_pos hb]; exact ⟨h.1.perm p, h.2⟩
  · rename_i hb; rw [if_neg hb]; exact h.perm (p.cons _)
theorem View.mono (ez : Ex Hz Hz') (e : Ex H H') (h : View K Hz H v x) : View K Hz' H' v x := by
  obtain ⟨A, a⟩ := h
  refine ⟨A, a.mono ez (fun b hb => ?_)⟩
  obtain ⟨o, q⟩ := a.there b hb
  rw [q]; exact e b o q
theorem View.rp (e : Ex Hz H) (h : View K Hz H v x) : Rp K H v x.d := h.elim fun _ a => a.rp e
theorem View.rpz {d : D} {b : Bool} (h : View K Hz H v ⟨0, b, d⟩) : Rp K Hz v d := h.elim fun _ a => a.zero.2
theorem View.imm (i : immut x.d = true) (h : View K Hz H v x) : Rp K Hz v x.d := h.elim fun _ a => (a.imm i).2

/-- an exception lies: a class without fields, or its own dict -/
def ExcAt (K : PySem.W.Frag) (Hz : Hp) (ns : List Nm) (xs : List D) (dx : Option Addr) : Prop := match dx with
  | none => ns = [] ∧ xs = []
  | some d => ∃ vs, Hz d = some (.xd ((ns.map Nm.str).zip vs)) ∧ ns.length = vs.length ∧ RpL K Hz vs xs

/-- what is to follow an expression -/
def RetE (K : PySem.W.Frag) (Fr : List Ent) (σ : L2.St) (Hz H : Hp) (s : Bool) (W : WX) (r : RE) (Q : VK) : Prop := match r with
  | .ok x ρ' => ∀ v H' Hz' es', Ex Hz Hz' → (s = true → Ex H H') → Slots σ ρ' es' → RVok K Hz' H' v x (es' ++ Fr) → Q v H'
  | .exc C ns xs ρ' => ∀ dx H' Hz' es', Ex Hz Hz' → ExcAt K Hz' ns xs dx → Slots σ ρ' es' → R K (es' ++ Fr) Hz' H' → W (.ref (ca K C)) dx σ H'
  | .stuck => False
def tE (K : PySem.W.Frag) (W : WX) (s : Bool) (f : EF) : TE := fun σ H Q => ∃ ρ es Fr Hz, Slots σ ρ es ∧ R K (es ++ Fr) Hz H ∧ RetE K Fr σ Hz H s W (f ρ) Q
/-- a test -/
def tT (K : PySem.W.Frag) (W : WX) (s : Bool) (f : EF) : TT := fun σ H Q => ∃ ρ es Fr Hz, Slots σ ρ es ∧ R K (es ++ Fr) Hz H ∧ RetE K Fr σ Hz H s W (f ρ) (fun v H' => ∃ c, v = .bl c ∧ Q c H')
/-- an expression comes to f on the trees; s: it changes nothing that was there -/
abbrev SE (X : Cx) (W : WX) (s : Bool) (e : Expr) (f : EF) : Prop := PE X e (tE X.K W s f)
abbrev ST (X : Cx) (W : WX) (s : Bool) (e : Expr) (f : EF) : Prop := PT X e (tT X.K W s f)
end
theorem peImp {X : Cx} {e : Expr} {t t' : TE} (h : PE X e t) (i : ∀ σ H Q, t' σ H Q → t σ H Q) : PE X e t' := ⟨fun pins s σ H Q I q => h.run pins s σ H Q I (i σ H Q q)⟩
theorem ptImp {X : Cx} {e : Expr} {t t' : TT} (h : PT X e t) (i : ∀ σ H Q, t' σ H Q → t σ H Q) : PT X e t' := ⟨fun pins s σ H Q I q => h.run pins s σ H Q I (i σ H Q q)⟩
theorem psImp {X : Cx} {e : Stmt} {t t' : TS} (h : PS X e t) (i : ∀ D σ H, t' D σ H → t D σ H) : PS X e t' := ⟨fun pins s σ H D I q => h.run pins s σ H D I (i D σ H q)⟩
theorem pssImp {X : Cx} {e : List Stmt} {t t' : TS} (h : PSs X e t) (i : ∀ D σ H, t' D σ H → t D σ H) : PSs X e t' := ⟨fun pins s σ H D I q => h.run pins s σ H D I (i D σ H q)⟩

/-! ### names and constants -/
/-- a variable is asked -/
def eVar (i : Nat) : EF := fun ρ => match ρ[i]? with
  | some (some (m, d)) => if m = 0 ∨ immut d = true then .ok (pureV d) ρ else .ok ⟨m, true, d⟩ ρ
  | _ => .stuck
/-- a variable's value is handed on: from now on nobody changes it -/
def eUse (i : Nat) : EF := fun ρ => match ρ[i]? with
  | some (some (_, d)) => .ok (pureV d) (ρ.set i (some (0, d)))
  | _ => .stuck
/-- a variable's value is handed on for good -/
def eMv (i : Nat) : EF := fun ρ => match ρ[i]? with
  | some (some (m, d)) => .ok ⟨m, false, d⟩ (ρ.set i none)
  | _ => .stuck
def eC (d : D) : EF := fun ρ => .ok (pureV d) ρ
/-- frozen -/
def eFz (f : EF) : EF := fun ρ => (f ρ).bind fun x ρ => if x.b = true then .stuck else .ok (pureV x.d) ρ

section
variable {X : Cx} {W : WX} {s : Bool} {pos : Pos}
theorem mid {es fs gs : List Ent} {e : Ent} (p : es.Perm (e :: fs)) : (es ++ gs).Perm (e :: (fs ++ gs)) := p.append_right gs
theorem se_var (i : Nat) {x : Str} (hN : X.N[i]? = some x := by rfl) (hv : Vis X.env.scope x := by first | exact Or.inl rfl | exact Or.inr (Or.inl rfl) | exact Or.inr (Or.inr rfl)) (hd : (x == ("__debug__" : Str)) = false := by decide)
    (hcd : (x == ("__classdict__" : Str)) = false := by decide) : SE X W s (.Name x pos) (eVar i) := by
  refine peImp (pv i hN hv hd hcd) fun σ H Q ⟨ρ, es, Fr, Hz, S, r, q⟩ => ?_
  unfold eVar at q
  cases e : ρ[i]? with
  | none => rw [e] at q; exact q.elim
  | some o => cases o with
    | none => rw [e] at q; exact q.elim
    | some md =>
      obtain ⟨m, d⟩ := md
      rw [e] at q
      obtain ⟨v, es', h1, h2, h3⟩ := S.take e
      have r' := r.perm (mid h2)
      refine ⟨v, h1, ?_⟩
      dsimp only at q
      split at q
      · rename_i c
        refine q v H Hz es (Ex.refl _) (fun _ => Ex.refl _) S (.pure ?_ r)
        rcases c with c | c
        · subst c; exact r'.rp0
        · exact r'.imm c
      · refine q v H Hz es (Ex.refl _) (fun _ => Ex.refl _) S ?_
        exact ⟨r, r'.head⟩
theorem se_use (i : Nat) {x : Str} (hN : X.N[i]? = some x := by rfl) (hv : Vis X.env.scope x := by first | exact Or.inl rfl | exact Or.inr (Or.inl rfl) | exact Or.inr (Or.inr rfl)) (hd : (x == ("__debug__" : Str)) = false := by decide)
    (hcd : (x == ("__classdict__" : Str)) = false := by decide) : SE X W s (.Name x pos) (eUse i) := by
  refine peImp (pv i hN hv hd hcd) fun σ H Q ⟨ρ, es, Fr, Hz, S, r, q⟩ => ?_
  unfold eUse at q
  cases e : ρ[i]? with
  | none => rw [e] at q; exact q.elim
  | some o => cases o with
    | none => rw [e] at q; exact q.elim
    | some md =>
      obtain ⟨m, d⟩ := md
      rw [e] at q
      obtain ⟨v, es', h1, h2, h3⟩ := S.take e
      obtain ⟨Hz', ez, r'⟩ := (r.perm (mid h2)).weaken 0 (.inl (Nat.zero_le _))
      have hi : i < ρ.length := (List.getElem?_eq_some_iff.mp e).1
      obtain ⟨es2, S2, p2⟩ := h3.put (v := v) (m := 0) (d := d) (by rw [List.getElem?_set_self hi]) h1
      rw [List.set_set] at S2
      refine ⟨v, h1, q v H Hz' es2 ez (fun _ => Ex.refl _) S2 (.pure r'.rp0 (r'.perm (mid p2).symm))⟩
theorem se_mv (i : Nat) {x : Str} (hN : X.N[i]? = some x := by rfl) (hv : Vis X.env.scope x := by first | exact Or.inl rfl | exact Or.inr (Or.inl rfl) | exact Or.inr (Or.inr rfl)) (hd : (x == ("__debug__" : Str)) = false := by decide)
    (hcd : (x == ("__classdict__" : Str)) = false := by decide) : SE X W s (.Name x pos) (eMv i) := by
  refine peImp (pv i hN hv hd hcd) fun σ H Q ⟨ρ, es, Fr, Hz, S, r, q⟩ => ?_
  unfold eMv at q
  cases e : ρ[i]? with
  | none => rw [e] at q; exact q.elim
  | some o => cases o with
    | none => rw [e] at q; exact q.elim
    | some md =>
      obtain ⟨m, d⟩ := md
      rw [e] at q
      obtain ⟨v, es', h1, h2, h3⟩ := S.take e
      exact ⟨v, h1, q v H Hz es' (Ex.refl _) (fun _ => Ex.refl _) h3 (.of rfl (r.perm (mid h2)))⟩
theorem se_c {e : Expr} {v : V} {d : D} (h : PE X e (tC v)) (hd : ∀ H, Rp X.K H v d) : SE X W s e (eC d) := by
  refine peImp h fun σ H Q ⟨ρ, es, Fr, Hz, S, r, q⟩ => ?_
  exact q v H Hz es (Ex.refl _) (fun _ => Ex.refl _) S (.pure (hd Hz) r)
theorem se_int {i : Int} {j : Nat} : SE X W s (.Constant (.int i) j pos) (eC (.int i)) := se_c pe_int fun _ => .int i
theorem se_bl {b : Bool} {j : Nat} : SE X W s (.Constant (.bool b) j pos) (eC (.bl b)) := se_c pe_bl fun _ => .bl b
theorem se_non {j : Nat} : SE X W s (.Constant .none j pos) (eC .non) := se_c pe_non fun _ => .non
theorem se_str {x : Str} {j : Nat} : SE X W s (.Constant (.str x) j pos) (eC (.str x)) := se_c pe_str fun _ => .str x
theorem se_cls {x : Str} (C : Nm) (hg : Gl X x) (hm : X.mg x = some (.ref (ca X.K C))) (hd : (x == ("__debug__" : Str)) = false := by decide) : SE X W s (.Name x pos) (eC (.cls C)) := se_c (v := .ref (ca X.K C)) (pe_glob hg hm rfl hd) fun _ => .cls C
theorem se_fz {e : Expr} {f : EF} (h : SE X W s e f) : SE X W s e (eFz f) := by
  refine peImp h fun σ H Q ⟨ρ, es, Fr, Hz, S, r, q⟩ => ⟨ρ, es, Fr, Hz, S, r, ?_⟩
  unfold eFz at q
  cases e : f ρ with
  | stuck => rw [e] at q; exact q
  | exc C ns xs ρ' => rw [e] at q; exact q
  | ok x ρ' =>
    rw [e] at q
    dsimp only [RE.bind] at q
    intro v H' Hz' es' ez k S' o
    split at q
    · exact q.elim
    · rename_i hb
      obtain ⟨Hz2, ez2, r2⟩ := (o.own (by simpa using hb)).weaken 0 (.inl (Nat.zero_le _))
      exact q v H' Hz2 es' (ez.trans ez2) k S' (.of rfl r2)

/-! ### two operands, one -/
/-- what a two-place operation on values comes to -/
abbrev Op2 := RV → RV → Option RV
def opE (o : Option RV) (ρ : Vr) : RE := match o with
  | some z => .ok z ρ
  | none => .stuck
/-- sb: the second operand changes nothing that was there -/
def e2 (sb : Bool) (op : Op2) (fa fb : EF) : EF := fun ρ => (fa ρ).bind fun x ρ1 => if (x.b && !sb) = true then .stuck else (fb ρ1).bind fun y ρ2 => opE (op x y) ρ2
def OpOk (K : PySem.W.Frag) (r : R2) (op : Op2) : Prop := ∀ (v w : V) (x y z : RV) (es : List Ent) (Hz H : Hp) (Q : VK), R K es Hz H → View K Hz H v x → View K Hz H w y → op x y = some z →
  (∀ u H' Hz', Ex Hz Hz' → Ex H H' → RVok K Hz' H' u z es → Q u H') → r v w H Q
/-- two values in a row: what is needed of any construct that evaluates a, then b -/
theorem two {K : PySem.W.Frag} {sa sb : Bool} {fa fb : EF} {σ : L2.St} {H : Hp} {k : RV → RV → EF} {Q : VK} {Qk : V → V → Hp → Prop} {s : Bool}
    (h : tE K W s (fun ρ => (fa ρ).bind fun x ρ1 => if (x.b && !sb) = true then .stuck else (fb ρ1).bind fun y ρ2 => k x y ρ2) σ H Q) (hs : s = true → sa = true ∧ sb = true)
    (hk : ∀ v w x y ρ2 es2 Fr Hz2 H2 Hz0, Slots σ ρ2 es2 → R K (es2 ++ Fr) Hz2 H2 → View K Hz2 H2 v x → View K Hz2 H2 w y → Ex Hz0 Hz2 → (s = true → Ex H H2) → RetE K Fr σ Hz0 H s W (k x y ρ2) Q → Qk v w H2) :
    tE K W sa fa σ H fun v H1 => tE K W sb fb σ H1 fun w H2 => Qk v w H2 := by
  obtain ⟨ρ, es, Fr, Hz, S, r, q⟩ := h
  refine ⟨ρ, es, Fr, Hz, S, r, ?_⟩
  dsimp only at q
  cases e : fa ρ with
  | stuck => rw [e] at q; exact q
  | exc C ns xs ρ' => rw [e] at q; exact q
  | ok x ρ1 =>
    rw [e] at q
    dsimp only [RE.bind] at q
    intro v H1 Hz1 es1 ez1 k1 S1 o1
    split at q
    · exact q.elim
    · rename_i hb
      cases e2 : fb ρ1 with
      | stuck => rw [e2] at q; exact q.elim
      | exc C ns xs ρ' =>
        rw [e2] at q
        refine ⟨ρ1, es1, Fr, Hz1, S1, o1.rest, ?_⟩
        rw [e2]
        exact fun dx H' Hz' es' ez a b c => q dx H' Hz' es' (ez1.trans ez) a b c
      | ok y ρ2 =>
        rw [e2] at q
        dsimp only [RE.bind] at q
        by_cases hx : x.b = true
        · -- the first is another's: the second changes nothing
          have hsb : sb = true := by
            rw [hx] at hb
            cases sb
            · exact absurd rfl hb
            · rfl
          refine ⟨ρ1, es1, Fr, Hz1, S1, o1.rest, ?_⟩
          rw [e2]
          intro w H2 Hz2 es2 ez2 k2 S2 o2
          exact hk v w x y ρ2 es2 Fr Hz2 H2 Hz S2 o2.rest (o1.view.mono ez2 (k2 hsb)) o2.view (ez1.trans ez2) (fun z => (k1 (hs z).1).trans (k2 (hs z).2)) q
        · have o1' := o1.own (by simpa using hx)
          refine ⟨ρ1, es1, ⟨v, x.q, x.d⟩ :: Fr, Hz1, S1, o1'.perm List.perm_middle.symm, ?_⟩
          rw [e2]
          intro w H2 Hz2 es2 ez2 k2 S2 o2
          have r2 := o2.rest.perm (List.perm_middle (a := (⟨v, x.q, x.d⟩ : Ent)))
          exact hk v w x y ρ2 es2 Fr Hz2 H2 Hz S2 r2.tail r2.head o2.view (ez1.trans ez2) (fun z => (k1 (hs z).1).trans (k2 (hs z).2)) q
theorem fin2 {K : PySem.W.Frag} {σ : L2.St} {s : Bool} {o : Option RV} {ρ2 : Vr} {es2 Fr : List Ent} {Hz0 Hz2 H H2 : Hp} {Q : VK} {z : RV} (ho : o = some z) (ez : Ex Hz0 Hz2) (k : s = true → Ex H H2) (S2 : Slots σ ρ2 es2) (q : RetE K Fr σ Hz0 H s W (opE o ρ2) Q) :
    ∀ u H' Hz', Ex Hz2 Hz' → Ex H2 H' → RVok K Hz' H' u z (es2 ++ Fr) → Q u H' := by
  subst ho
  exact fun u H' Hz' e1 e2 o => q u H' Hz' es2 (ez.trans e1) (fun z => (k z).trans e2) S2 o
theorem opE_some {K : PySem.W.Frag} {σ : L2.St} {s : Bool} {o : Option RV} {ρ2 : Vr} {Fr : List Ent} {Hz H : Hp} {Q : VK} (q : RetE K Fr σ Hz H s W (opE o ρ2) Q) : ∃ z, o = some z := by
  cases o with
  | none => exact q.elim
  | some z => exact ⟨z, rfl⟩
variable {a b : Expr} {fa fb : EF} {sa sb : Bool}
theorem se_op {op : Operator} {r : R2} {o : Op2} (h : OpR X (binaryOp op) r) (ok : OpOk X.K r o) (ha : SE X W sa a fa) (hb : SE X W sb b fb) (hs : s = true → sa = true ∧ sb = true := by first | exact fun _ => ⟨rfl, rfl⟩ | (intro z; cases z)) : SE X W s (.BinOp a op b pos) (e2 sb o fa fb) := by
  refine peImp (pe_op h ha hb) fun σ H Q q => ?_
  refine two q hs fun v w x y ρ2 es2 Fr Hz2 H2 Hz0 S2 r2 v1 v2 ez k q2 => ?_
  obtain ⟨z, hz⟩ := opE_some q2
  exact ok v w x y z _ Hz2 H2 Q r2 v1 v2 hz (fin2 hz ez k S2 q2)
theorem se_cmp {op : CmpOp} {r : R2} {o : Op2} (h : OpR X (compareOp op) r) (ok : OpOk X.K r o) (ha : SE X W sa a fa) (hb : SE X W sb b fb) (hm : behindInMarks op b = false := by first | exact nomark _ | rfl) (hs : s = true → sa = true ∧ sb = true := by first | exact fun _ => ⟨rfl, rfl⟩ | (intro z; cases z)) : SE X W s (.Compare a [op] [b] pos) (e2 sb o fa fb) := by
  refine peImp (pe_cmpR h ha hb hm) fun σ H Q q => ?_
  refine two q hs fun v w x y ρ2 es2 Fr Hz2 H2 Hz0 S2 r2 v1 v2 ez k q2 => ?_
  obtain ⟨z, hz⟩ := opE_some q2
  exact ok v w x y z _ Hz2 H2 Q r2 v1 v2 hz (fin2 hz ez k S2 q2)
theorem st_cmp {op : CmpOp} {r : R2} {o : Op2} (h : OpR X (compareOp op) r) (ok : OpOk X.K r o) (ha : SE X W sa a fa) (hb : SE X W sb b fb) (hm : behindInMarks op b = false := by first | exact nomark _ | rfl) (hs : s = true → sa = true ∧ sb = true := by first | exact fun _ => ⟨rfl, rfl⟩ | (intro z; cases z)) : ST X W s (.Compare a [op] [b] pos) (e2 sb o fa fb) := by
  refine ptImp (pt_cmpR h ha hb hm) fun σ H Q q => ?_
  refine two q hs fun v w x y ρ2 es2 Fr Hz2 H2 Hz0 S2 r2 v1 v2 ez k q2 => ?_
  obtain ⟨z, hz⟩ := opE_some q2
  exact ok v w x y z _ Hz2 H2 _ r2 v1 v2 hz (fin2 hz ez k S2 q2)
/-- a value that is a truth, as a test -/
theorem st_val {e : Expr} {f : EF} (h : SE X W s e f) (he : ∀ whole, isTrue e X.env whole = (do let v ← whole; standAt e.pos; holding [v] (truthy v)) := by intro _; rfl) : ST X W s e f := by
  refine ptImp (pt_val h he) fun σ H Q q => q
end
end Pd
end
section
/-! Pd: operators on trees. -/
namespace Pd
open PySem L2
abbrev BIG : Nat := 1000000
theorem big_line {n : Nat} (h : n ≤ BIG) : n ≤ sizeLine := Nat.le_trans h (by decide)
theorem big_lt {n : Nat} (h : n < BIG) : n < sizeLine := Nat.lt_of_lt_of_le h (by decide)
section
variable {K : PySem.W.Frag} {Hz H : Hp} {es : List Ent} {v : V} {x : RV}
theorem View.int {i : Int} (h : View K Hz H v x) (e : x.d = .int i) : v = .int i := by
  have r := h.imm (by rw [e]; rfl)
  rw [e] at r; cases r; rfl
theorem View.bl {i : Bool} (h : View K Hz H v x) (e : x.d = .bl i) : v = .bl i := by
  have r := h.imm (by rw [e]; rfl)
  rw [e] at r; cases r; rfl
theorem View.str {i : Str} (h : View K Hz H v x) (e : x.d = .str i) : v = .str i := by
  have r := h.imm (by rw [e]; rfl)
  rw [e] at r; cases r; rfl
theorem View.non (h : View K Hz H v x) (e : x.d = .non) : v = .non := by
  have r := h.imm (by rw [e]; rfl)
  rw [e] at r; cases r; rfl
theorem View.tup {ds : List D} (h : View K Hz H v x) (e : x.d = .tup ds) : ∃ a vs, v = .ref a ∧ Hz a = some (.tup vs) ∧ RpL K Hz vs ds := by
  have r := h.imm (by rw [e]; rfl)
  rw [e] at r; cases r with
  | tup h1 h2 => exact ⟨_, _, rfl, h1, h2⟩
theorem View.frl {ds : List D} (h : View K Hz H v x) (e : x.d = .frl ds) : ∃ a vs, v = .ref a ∧ SqL K Hz a vs ∧ RpL K Hz vs ds := by
  have r := h.imm (by rw [e]; rfl)
  rw [e] at r; cases r with
  | frl h1 h2 => exact ⟨_, _, rfl, h1, h2⟩
/-- a list: its items are owned one level less -/
theorem View.lst {ds : List D} (ex : Ex Hz H) (h : View K Hz H v x) (e : x.d = .lst ds) : ∃ a vs A, v = .ref a ∧ H a = some (.lst vs) ∧ OwnL K Hz H (x.q - 1) vs ds A := by
  obtain ⟨q, b, d⟩ := x
  obtain ⟨A, a⟩ := h
  dsimp only at e a ⊢
  subst e
  cases a with
  | fz c r =>
    have hq : q = 0 := c.elim id fun z => by cases z
    subst hq
    cases r with
    | lst h1 h2 => exact ⟨_, _, _, rfl, ex _ _ h1, OwnL.of_zero 0 h2⟩
  | lst h1 h2 => exact ⟨_, _, _, rfl, h1, h2⟩
theorem View.dk {ks : List Key} {ds : List D} (ex : Ex Hz H) (h : View K Hz H v x) (e : x.d = .dk ks ds) : ∃ a vs A, v = .ref a ∧ H a = some (.dK (ks.zip vs)) ∧ ks.length = vs.length ∧ OwnL K Hz H (x.q - 1) vs ds A := by
  obtain ⟨q, b, d⟩ := x
  obtain ⟨A, a⟩ := h
  dsimp only at e a ⊢
  subst e
  cases a with
  | fz c r =>
    have hq : q = 0 := c.elim id fun z => by cases z
    subst hq
    cases r with
    | dk h1 l h2 => exact ⟨_, _, _, rfl, ex _ _ h1, l, OwnL.of_zero 0 h2⟩
  | dk h1 l h2 => exact ⟨_, _, _, rfl, h1, l, h2⟩
theorem View.dt {ks : List (List Key)} {ds : List D} (ex : Ex Hz H) (h : View K Hz H v x) (e : x.d = .dt ks ds) : ∃ a vs A, v = .ref a ∧ H a = some (.dT (ks.zip vs)) ∧ ks.length = vs.length ∧ OwnL K Hz H (x.q - 1) vs ds A := by
  obtain ⟨q, b, d⟩ := x
  obtain ⟨A, a⟩ := h
  dsimp only at e a ⊢
  subst e
  cases a with
  | fz c r =>
    have hq : q = 0 := c.elim id fun z => by cases z
    subst hq
    cases r with
    | dt h1 l h2 => exact ⟨_, _, _, rfl, ex _ _ h1, l, OwnL.of_zero 0 h2⟩
  | dt h1 l h2 => exact ⟨_, _, _, rfl, h1, l, h2⟩
theorem View.ins {C : Nm} {ns : List Nm} {ds : List D} (ex : Ex Hz H) (h : View K Hz H v x) (e : x.d = .ins C ns ds) : ∃ a dx vs A, v = .ref a ∧ H a = some (.ins (ca K C) dx ((ns.map Nm.str).zip vs)) ∧ ns.length = vs.length ∧ OwnL K Hz H (x.q - 1) vs ds A := by
  obtain ⟨q, b, d⟩ := x
  obtain ⟨A, a⟩ := h
  dsimp only at e a ⊢
  subst e
  cases a with
  | fz c r =>
    have hq : q = 0 := c.elim id fun z => by cases z
    subst hq
    cases r with
    | ins h1 l h2 => exact ⟨_, _, _, _, rfl, ex _ _ h1, l, OwnL.of_zero 0 h2⟩
  | ins h1 l h2 => exact ⟨_, _, _, _, rfl, h1, l, h2⟩
/-- at most one level: the items are frozen -/
theorem OwnL.one {q : Nat} {vs : List V} {ds : List D} {A : List Addr} (h : OwnL K Hz H (q - 1) vs ds A) (hq : q ≤ 1) : RpL K Hz vs ds := by
  have : q - 1 = 0 := by omega
  rw [this] at h
  exact h.zero.2
/-- a new list of frozen things -/
theorem new_lst {p : Addr} {vs : List V} {ds : List D} (r : R K es Hz H) (hp : H p = none) (l : RpL K Hz vs ds) : RVok K Hz (upd H p (.lst vs)) (.ref p) ⟨1, false, .lst ds⟩ es := by
  refine .of rfl (R.alloc (fs := []) (m := 0) r hp fun A hA => ?_)
  cases hA
  exact .lst upd_same (OwnL.of_zero 0 l)
/-- a new tuple of frozen things -/
theorem new_tup {p : Addr} {vs : List V} {ds : List D} (r : R K es Hz H) (hp : H p = none) (l : RpL K Hz vs ds) : Ex Hz (upd Hz p (.tup vs)) ∧ RVok K (upd Hz p (.tup vs)) (upd H p (.tup vs)) (.ref p) (pureV (.tup ds)) es := by
  obtain ⟨e, r'⟩ := r.allocZ (o := .tup vs) hp
  exact ⟨e, .pure (.tup upd_same (l.mono e)) r'⟩

def oAdd : Op2 := fun x y => match x.d, y.d with
  | .int i, .int j => some (pureV (.int (i + j)))
  | .str a, .str b => if a.length + b.length ≤ BIG then some (pureV (.str (a ++ b))) else none
  | .lst xs, .lst ys => if x.q ≤ 1 ∧ y.q ≤ 1 ∧ xs.length + ys.length ≤ BIG then some ⟨1, false, .lst (xs ++ ys)⟩ else none
  | .tup xs, .tup ys => if xs ≠ [] ∧ xs.length + ys.length ≤ BIG then some (pureV (.tup (xs ++ ys))) else none
  | _, _ => none
end
section
variable {K : PySem.W.Frag}
def rAddA (K : PySem.W.Frag) : R2 := fun x y H Q => rI0 (fun i j => .int (i + j)) x y H Q ∨ (∃ i j, x = .str i ∧ y = .str j ∧ i.length + j.length ≤ sizeLine ∧ Q (.str (i ++ j)) H) ∨ rCat x y H Q ∨ rCatT K x y H Q
theorem op_addA {X : Cx} : OpR X (binaryOp .Add) (rAddA X.K) := op_add.or (op_add_str.or (op_cat.or op_catT))
theorem RpL.nil_iff {Hz : Hp} {vs : List V} {ds : List D} (h : RpL K Hz vs ds) : vs = [] ↔ ds = [] := by
  cases h <;> simp
theorem ok_add : OpOk K (rAddA K) oAdd := by
  intro v w x y z es Hz H Q r hx hy hz q
  unfold oAdd at hz
  split at hz
  · rename_i i j e1 e2
    cases hz
    exact .inl ⟨i, j, hx.int e1, hy.int e2, q _ H Hz (Ex.refl _) (Ex.refl _) (.pure (.int _) r)⟩
  · rename_i a b e1 e2
    split at hz
    · rename_i c
      cases hz
      exact .inr (.inl ⟨a, b, hx.str e1, hy.str e2, big_line c, q _ H Hz (Ex.refl _) (Ex.refl _) (.pure (.str _) r)⟩)
    · cases hz
  · rename_i xs ys e1 e2
    split at hz
    · rename_i c
      obtain ⟨c1, c2, c3⟩ := c
      cases hz
      obtain ⟨a, vs, A, rfl, h1, o1⟩ := hx.lst r.ex e1
      obtain ⟨b, ws, B, rfl, h2, o2⟩ := hy.lst r.ex e2
      refine .inr (.inr (.inl ⟨a, b, vs, ws, rfl, rfl, h1, h2, ?_, fun p hp => ?_⟩))
      · rw [o1.length, o2.length]; exact big_line c3
      · exact q _ _ Hz (Ex.refl _) (Ex.new hp) (new_lst r hp ((o1.one c1).append (o2.one c2)))
    · cases hz
  · rename_i xs ys e1 e2
    split at hz
    · rename_i c
      obtain ⟨c1, c3⟩ := c
      cases hz
      obtain ⟨a, vs, rfl, h1, o1⟩ := hx.tup e1
      obtain ⟨b, ws, rfl, h2, o2⟩ := hy.tup e2
      refine .inr (.inr (.inr ⟨a, b, vs, ws, rfl, rfl, .of (r.ex _ _ h1), .of (r.ex _ _ h2), fun e => c1 (o1.nil_iff.mp e), ?_, fun e => ?_, fun _ p hp => ?_⟩))
      · rw [o1.length, o2.length]; exact big_line c3
      · have e' := o2.nil_iff.mp e
        subst e'
        simp only [List.append_nil] at q
        exact q _ H Hz (Ex.refl _) (Ex.refl _) (.pure (.tup h1 o1) r)
      · obtain ⟨e, o⟩ := new_tup r hp (o1.append o2)
        exact q _ _ _ e (Ex.new hp) o
    · cases hz
  · cases hz
/-! ints -/
def oI (g : Int → Int → D) (c : Int → Int → Bool) : Op2 := fun x y => match x.d, y.d with
  | .int i, .int j => if c i j = true then some (pureV (g i j)) else none
  | _, _ => none
theorem ok_I {C : Int → Int → Prop} {gV : Int → Int → V} {g : Int → Int → D} {c : Int → Int → Bool} (hc : ∀ i j, c i j = true → C i j) (hg : ∀ H i j, Rp K H (gV i j) (g i j)) : OpOk K (rI C gV) (oI g c) := by
  intro v w x y z es Hz H Q r hx hy hz q
  unfold oI at hz
  split at hz
  · rename_i i j e1 e2
    split at hz
    · rename_i h
      cases hz
      exact ⟨i, j, hx.int e1, hy.int e2, hc i j h, q _ H Hz (Ex.refl _) (Ex.refl _) (.pure (hg _ i j) r)⟩
    · cases hz
  · cases hz
def oI0 (g : Int → Int → D) : Op2 := fun x y => match x.d, y.d with
  | .int i, .int j => some (pureV (g i j))
  | _, _ => none
theorem ok_I0 {gV : Int → Int → V} {g : Int → Int → D} (hg : ∀ H i j, Rp K H (gV i j) (g i j)) : OpOk K (rI0 gV) (oI0 g) := by
  intro v w x y z es Hz H Q r hx hy hz q
  unfold oI0 at hz
  split at hz
  · rename_i i j e1 e2
    cases hz
    exact ⟨i, j, hx.int e1, hy.int e2, q _ H Hz (Ex.refl _) (Ex.refl _) (.pure (hg _ i j) r)⟩
  · cases hz
def oSub : Op2 := oI0 fun i j => .int (i - j)
theorem ok_sub : OpOk K (rI0 fun i j => .int (i - j)) oSub := ok_I0 fun _ _ _ => .int _
def oDiv : Op2 := oI (fun i j => .int (i / j)) fun i j => decide (0 < j ∧ j < 1073741824)
theorem ok_div : OpOk K (rI CDiv fun i j => .int (i / j)) oDiv := ok_I (fun i j h => (of_decide_eq_true h : 0 < j ∧ j < 1073741824)) fun _ _ _ => .int _
def oMod : Op2 := oI (fun i j => .int (i % j)) fun _ j => decide (0 < j)
theorem ok_mod : OpOk K (rI (fun _ j => 0 < j) fun i j => .int (i % j)) oMod := ok_I (fun i j h => (of_decide_eq_true h : 0 < j)) fun _ _ _ => .int _
def oPow : Op2 := oI (fun i j => .int (i ^ j.toNat)) fun i j => decide (0 ≤ j ∧ j ≤ 1000000 ∧ i.natAbs < 18446744073709551616)
theorem ok_pow : OpOk K (rI CPow fun i j => .int (i ^ j.toNat)) oPow := ok_I (fun i j h => by
  obtain ⟨h1, h2, h3⟩ := of_decide_eq_true h
  exact ⟨h1, h2, by simpa using h3⟩) fun _ _ _ => .int _
def oMul : Op2 := fun x y => match x.d, y.d with
  | .int i, .int j => if i.natAbs < 18446744073709551616 ∨ j.natAbs < 18446744073709551616 then some (pureV (.int (i * j))) else none
  | .lst xs, .int k => if x.q ≤ 1 ∧ 0 ≤ k ∧ k ≤ 1000 ∧ xs.length ≤ 1000 then some ⟨1, false, .lst (List.replicate k.toNat xs).flatten⟩ else none
  | _, _ => none
def rMulA : R2 := fun x y H Q => rI CMul (fun i j => .int (i * j)) x y H Q ∨ rRep x y H Q
theorem op_mulA {X : Cx} : OpR X (binaryOp .Mult) rMulA := op_mul.or op_rep
theorem RpL.rep {Hz : Hp} {vs : List V} {ds : List D} (h : RpL K Hz vs ds) : ∀ n : Nat, RpL K Hz (List.replicate n vs).flatten (List.replicate n ds).flatten
  | 0 => .nil
  | n + 1 => by
    rw [List.replicate_succ, List.replicate_succ, List.flatten_cons, List.flatten_cons]
    exact h.append (RpL.rep h n)
theorem ok_mul : OpOk K rMulA oMul := by
  intro v w x y z es Hz H Q r hx hy hz q
  unfold oMul at hz
  split at hz
  · rename_i i j e1 e2
    split at hz
    · rename_i c
      cases hz
      refine .inl ⟨i, j, hx.int e1, hy.int e2, ?_, q _ H Hz (Ex.refl _) (Ex.refl _) (.pure (.int _) r)⟩
      have e : (2 : Int) ^ 64 = 18446744073709551616 := by decide
      unfold CMul
      rw [e]
      omega
    · cases hz
  · rename_i xs k e1 e2
    split at hz
    · rename_i c
      obtain ⟨c1, c2, c3, c4⟩ := c
      cases hz
      obtain ⟨a, vs, A, rfl, h1, o1⟩ := hx.lst r.ex e1
      have e : (2 : Int) ^ 63 = 9223372036854775808 := by decide
      refine .inr ⟨a, k, vs, rfl, hy.int e2, h1, by rw [e]; omega, by rw [e]; omega, ?_, fun p hp => ?_⟩
      · rw [o1.length]
        have : xs.length * k.toNat ≤ 1000 * 1000 := Nat.mul_le_mul c4 (by omega)
        exact Nat.le_trans this (by decide)
      · exact q _ _ Hz (Ex.refl _) (Ex.new hp) (new_lst r hp ((o1.one c1).rep _))
    · cases hz
  · cases hz
/-! comparisons -/
def oB0 (g : Int → Int → Bool) : Op2 := oI0 fun i j => .bl (g i j)
theorem ok_lt : OpOk K (rI0 fun i j => .bl (decide (i < j))) (oB0 fun i j => decide (i < j)) := ok_I0 fun _ _ _ => .bl _
theorem ok_le : OpOk K (rI0 fun i j => .bl (decide (i ≤ j))) (oB0 fun i j => decide (i ≤ j)) := ok_I0 fun _ _ _ => .bl _
theorem ok_gt : OpOk K (rI0 fun i j => .bl (decide (j < i))) (oB0 fun i j => decide (j < i)) := ok_I0 fun _ _ _ => .bl _
theorem ok_ge : OpOk K (rI0 fun i j => .bl (decide (j ≤ i))) (oB0 fun i j => decide (j ≤ i)) := ok_I0 fun _ _ _ => .bl _
/-- is None -/
def isNon : D → Bool
  | .non => true
  | _ => false
def isHole : D → Bool
  | .hole _ => true
  | _ => false
def oIsN : Op2 := fun x y => if isNon y.d = true ∧ isHole x.d = false then some (pureV (.bl (isNon x.d))) else none
def oNotN : Op2 := fun x y => if isNon y.d = true ∧ isHole x.d = false then some (pureV (.bl (!isNon x.d))) else none
theorem isNon_ok {Hz : Hp} {v : V} {d : D} (h : Rp K Hz v d) (n : isHole d = false) : decide (v = .non) = isNon d := by
  cases h <;> first | rfl | cases n
theorem isNon_eq {d : D} (h : isNon d = true) : d = .non := by
  cases d <;> first | rfl | cases h
theorem ok_isN : OpOk K (fun x y H Q => y = .non ∧ Q (.bl (decide (x = .non))) H) oIsN := by
  intro v w x y z es Hz H Q r hx hy hz q
  unfold oIsN at hz
  split at hz
  · rename_i c
    cases hz
    refine ⟨hy.non (isNon_eq c.1), ?_⟩
    rw [isNon_ok (hx.rp r.ex) c.2]
    exact q _ H Hz (Ex.refl _) (Ex.refl _) (.pure (.bl _) r)
  · cases hz
theorem ok_notN : OpOk K (fun x y H Q => y = .non ∧ Q (.bl (!decide (x = .non))) H) oNotN := by
  intro v w x y z es Hz H Q r hx hy hz q
  unfold oNotN at hz
  split at hz
  · rename_i c
    cases hz
    refine ⟨hy.non (isNon_eq c.1), ?_⟩
    rw [isNon_ok (hx.rp r.ex) c.2]
    exact q _ H Hz (Ex.refl _) (Ex.refl _) (.pure (.bl _) r)
  · cases hz
end
end Pd
end
section
/-! Pd: and, or, not, chains, choices, displays, fields, items, slices. -/
namespace Pd
open PySem L2
section
variable {X : Cx} {W : WX} {s sa sb sc : Bool} {pos : Pos} {K : PySem.W.Frag} {fa fb fc : EF} {σ : L2.St} {H : Hp} {Q : VK} {a b c : Expr}
theorem RetE.base {Fr : List Ent} {Hz0 Hz1 H0 H1 : Hp} {s s' : Bool} {r : RE} {Q : VK} (q : RetE K Fr σ Hz0 H0 s W r Q) (ez : Ex Hz0 Hz1) (k : s = true → Ex H0 H1 ∧ s' = true) : RetE K Fr σ Hz1 H1 s' W r Q := by
  cases r with
  | stuck => exact q
  | exc C ns xs ρ => exact fun dx H' Hz' es' e a b c => q dx H' Hz' es' (ez.trans e) a b c
  | ok x ρ => exact fun v H' Hz' es' e kk S o => q v H' Hz' es' (ez.trans e) (fun z => (k z).1.trans (kk (k z).2)) S o
/-- one value, then what goes on with it -/
theorem one {k : RV → EF} {Qk : V → Hp → Prop} (h : tE K W s (fun ρ => (fa ρ).bind k) σ H Q) (hs : s = true → sa = true)
    (hk : ∀ v x ρ1 es1 Fr Hz1 H1, Slots σ ρ1 es1 → RVok K Hz1 H1 v x (es1 ++ Fr) → RetE K Fr σ Hz1 H1 s W (k x ρ1) Q → (s = true → Ex H H1) → Qk v H1) : tE K W sa fa σ H Qk := by
  obtain ⟨ρ, es, Fr, Hz, S, r, q⟩ := h
  refine ⟨ρ, es, Fr, Hz, S, r, ?_⟩
  dsimp only at q
  cases e : fa ρ with
  | stuck => rw [e] at q; exact q
  | exc C ns xs ρ' => rw [e] at q; exact q
  | ok x ρ1 =>
    rw [e] at q
    exact fun v H1 Hz1 es1 ez k1 S1 o1 => hk v x ρ1 es1 Fr Hz1 H1 S1 o1 (q.base ez fun z => ⟨k1 (hs z), z⟩) fun z => k1 (hs z)
theorem one' {k : RV → EF} {Qk : V → Hp → Prop} (h : tE K W s (fun ρ => (fa ρ).bind k) σ H Q) (hs : s = true → sa = true)
    (hk : ∀ v x ρ1 es1 Fr Hz1 H1, Slots σ ρ1 es1 → RVok K Hz1 H1 v x (es1 ++ Fr) → RetE K Fr σ Hz1 H1 s W (k x ρ1) Q → Qk v H1) : tE K W sa fa σ H Qk := one h hs fun v x ρ1 es1 Fr Hz1 H1 S o q _ => hk v x ρ1 es1 Fr Hz1 H1 S o q
theorem RVok.d_imm {Hz : Hp} {es : List Ent} {v : V} {x : RV} (o : RVok K Hz H v x es) (i : immut x.d = true) : Rp K Hz v x.d := o.view.imm i
theorem RVok.bl {Hz : Hp} {es : List Ent} {v : V} {x : RV} {t : Bool} (o : RVok K Hz H v x es) (e : x.d = .bl t) : v = .bl t := o.view.bl e

/-! ### and, or, not -/
/-- by a truth -/
def eIf (fc fa fb : EF) : EF := fun ρ => (fc ρ).bind fun x ρ1 => match x.d with
  | .bl true => fa ρ1
  | .bl false => fb ρ1
  | _ => .stuck
abbrev eAnd (fa fb : EF) : EF := eIf fa fb (eC (.bl false))
abbrev eOr (fa fb : EF) : EF := eIf fa (eC (.bl true)) fb
abbrev eNot (fa : EF) : EF := eIf fa (eC (.bl false)) (eC (.bl true))
theorem if_core {Qk : V → Hp → Prop} (h : tE K W s (eIf fc fa fb) σ H Q) (hs : s = true → sc = true ∧ sa = true ∧ sb = true)
    (hk : ∀ v c H1, v = .bl c → (if c = true then tE K W sa fa σ H1 Q else tE K W sb fb σ H1 Q) → Qk v H1) : tE K W sc fc σ H Qk := by
  refine one h (fun z => (hs z).1) fun v x ρ1 es1 Fr Hz1 H1 S o q k => ?_
  split at q
  · rename_i e
    refine hk v true H1 (o.bl e) (iteT ⟨ρ1, es1, Fr, Hz1, S, o.rest, q.base (Ex.refl _) fun z => ⟨Ex.refl _, (hs z).2.1⟩⟩)
  · rename_i e
    refine hk v false H1 (o.bl e) (iteF ⟨ρ1, es1, Fr, Hz1, S, o.rest, q.base (Ex.refl _) fun z => ⟨Ex.refl _, (hs z).2.2⟩⟩)
  · exact q.elim
theorem ec_ret {d : D} {v : V} (h : tE K W s (eC d) σ H Q) (hd : ∀ H, Rp K H v d) : Q v H := by
  obtain ⟨ρ, es, Fr, Hz, S, r, q⟩ := h
  exact q v H Hz es (Ex.refl _) (fun _ => Ex.refl _) S (.pure (hd _) r)
theorem ite_imp {c : Bool} {A B A' B' : Prop} (h : if c = true then A else B) (h1 : A → A') (h2 : B → B') : if c = true then A' else B' := by
  cases c with
  | true => rw [if_pos rfl] at h ⊢; exact h1 h
  | false => rw [if_neg Bool.false_ne_true] at h ⊢; exact h2 h
theorem se_and {rest : List Expr} (ha : SE X W sa a fa) (hb : SE X W sb (.BoolOp .And (b :: rest) pos) fb) (hs : s = true → sa = true ∧ sb = true := by first | exact fun _ => ⟨rfl, rfl⟩ | (intro z; cases z)) : SE X W s (.BoolOp .And (a :: b :: rest) pos) (eAnd fa fb) := by
  refine peImp (pe_and ha hb) fun σ H Q q => ?_
  exact if_core (sb := true) q (fun z => ⟨(hs z).1, (hs z).2, rfl⟩) fun v c H1 e t => ⟨c, e, ite_imp t id fun t => ec_ret t fun _ => .bl _⟩
theorem se_or {rest : List Expr} (ha : SE X W sa a fa) (hb : SE X W sb (.BoolOp .Or (b :: rest) pos) fb) (hs : s = true → sa = true ∧ sb = true := by first | exact fun _ => ⟨rfl, rfl⟩ | (intro z; cases z)) : SE X W s (.BoolOp .Or (a :: b :: rest) pos) (eOr fa fb) := by
  refine peImp (pe_or ha hb) fun σ H Q q => ?_
  exact if_core (sa := true) q (fun z => ⟨(hs z).1, rfl, (hs z).2⟩) fun v c H1 e t => ⟨c, e, ite_imp t (fun t => ec_ret t fun _ => .bl _) id⟩
theorem se_one {op : BoolOp} (h : SE X W s a fa) : SE X W s (.BoolOp op [a] pos) fa := pe_one h
theorem se_not (ha : SE X W s a fa) : SE X W s (.UnaryOp .Not a pos) (eNot fa) := by
  refine peImp (pe_not ha) fun σ H Q q => ?_
  refine if_core (sa := true) (sb := true) q (fun z => ⟨z, rfl, rfl⟩) fun v c H1 e t => ⟨c, e, ?_⟩
  cases c with
  | true => exact ec_ret (by simpa using t) fun _ => .bl _
  | false => exact ec_ret (by simpa using t) fun _ => .bl _
/-- tests that are and, or chains -/
abbrev SW (X : Cx) (W : WX) (s : Bool) (e : Expr) (f : EF) : Prop := PW X e (tT X.K W s f)
theorem SW.st {e : Expr} (h : SW X W s e fa) : ST X W s e fa := h.pt
theorem pwImp {e : Expr} {t t' : TT} (h : PW X e t) (i : ∀ σ H Q, t' σ H Q → t σ H Q) : PW X e t' := ⟨fun wh pins s σ H Q I q => h.run wh pins s σ H Q I (i σ H Q q)⟩
theorem bl_ret {Q : Bool → Hp → Prop} {t : Bool} (h : tE K W s (eC (.bl t)) σ H (fun v H' => ∃ c, v = .bl c ∧ Q c H')) : Q t H := by
  obtain ⟨c, e, q⟩ := ec_ret (v := .bl t) h fun _ => .bl _
  cases e; exact q
theorem sw_and {rest : List Expr} (ha : ST X W sa a fa) (hb : SW X W sb (.BoolOp .And (b :: rest) pos) fb) (hs : s = true → sa = true ∧ sb = true := by first | exact fun _ => ⟨rfl, rfl⟩ | (intro z; cases z)) : SW X W s (.BoolOp .And (a :: b :: rest) pos) (eAnd fa fb) := by
  refine pwImp (pw_and ha hb) fun σ H Q q => ?_
  exact if_core (sb := true) q (fun z => ⟨(hs z).1, (hs z).2, rfl⟩) fun v c H1 e t => ⟨c, e, ite_imp t id bl_ret⟩
theorem sw_or {rest : List Expr} (ha : ST X W sa a fa) (hb : SW X W sb (.BoolOp .Or (b :: rest) pos) fb) (hs : s = true → sa = true ∧ sb = true := by first | exact fun _ => ⟨rfl, rfl⟩ | (intro z; cases z)) : SW X W s (.BoolOp .Or (a :: b :: rest) pos) (eOr fa fb) := by
  refine pwImp (pw_or ha hb) fun σ H Q q => ?_
  exact if_core (sa := true) q (fun z => ⟨(hs z).1, rfl, (hs z).2⟩) fun v c H1 e t => ⟨c, e, ite_imp t bl_ret id⟩
theorem sw_and1 (ha : ST X W s a fa) : SW X W s (.BoolOp .And [a] pos) fa := pw_and1 ha
theorem sw_or1 (ha : ST X W s a fa) : SW X W s (.BoolOp .Or [a] pos) fa := pw_or1 ha
theorem st_not (ha : ST X W s a fa) : ST X W s (.UnaryOp .Not a pos) (eNot fa) := by
  refine ptImp (pt_not ha) fun σ H Q q => ?_
  refine if_core (sa := true) (sb := true) q (fun z => ⟨z, rfl, rfl⟩) fun v c H1 e t => ⟨c, e, ?_⟩
  cases c with
  | true => exact bl_ret (s := true) (W := W) (by simpa using t)
  | false => exact bl_ret (s := true) (W := W) (by simpa using t)
theorem se_ite (hc : ST X W sc c fc) (ha : SE X W sa a fa) (hb : SE X W sb b fb) (hs : s = true → sc = true ∧ sa = true ∧ sb = true := by first | exact fun _ => ⟨rfl, rfl, rfl⟩ | (intro z; cases z)) : SE X W s (.IfExp c a b pos) (eIf fc fa fb) := by
  refine peImp (pe_ifExp hc ha hb) fun σ H Q q => ?_
  exact if_core q hs fun v c H1 e t => ⟨c, e, t⟩

/-! ### a < b < c, of whole numbers; the middle one is asked once -/
def eChain (g g' : Int → Int → Bool) (fa fb fc : EF) : EF := fun ρ => (fa ρ).bind fun x ρ1 => match x.d with
  | .int i => (fb ρ1).bind fun y ρ2 => match y.d with
    | .int j => if g i j = true then (fc ρ2).bind fun z ρ3 => match z.d with
        | .int k => .ok (pureV (.bl (g' j k))) ρ3
        | _ => .stuck
      else .ok (pureV (.bl false)) ρ2
    | _ => .stuck
  | _ => .stuck
theorem chain_core {g g' : Int → Int → Bool} (h : tE K W s (eChain g g' fa fb fc) σ H Q) (hs : s = true → sa = true ∧ sb = true ∧ sc = true) :
    tChain (rI0 fun i j => .bl (g i j)) (rI0 fun i j => .bl (g' i j)) (tE K W sa fa) (tE K W sb fb) (tE K W sc fc) σ H Q := by
  refine one h (fun z => (hs z).1) fun v x ρ1 es1 Fr Hz1 H1 S o q k => ?_
  split at q
  · rename_i i e1
    have ev := o.view.int e1
    refine one (s := s) ⟨ρ1, es1, Fr, Hz1, S, o.rest, q⟩ (fun z => (hs z).2.1) fun w y ρ2 es2 Fr2 Hz2 H2 S2 o2 q2 k2 => ?_
    split at q2
    · rename_i j e2
      have ew := o2.view.int e2
      refine ⟨i, j, ev, ew, g i j, rfl, ?_⟩
      split at q2
      · rename_i c
        rw [if_pos c]
        refine one (s := s) ⟨ρ2, es2, Fr2, Hz2, S2, o2.rest, q2⟩ (fun z => (hs z).2.2) fun u z ρ3 es3 Fr3 Hz3 H3 S3 o3 q3 k3 => ?_
        split at q3
        · rename_i l e3
          exact ⟨j, l, ew, o3.view.int e3, q3 _ H3 Hz3 es3 (Ex.refl _) (fun _ => Ex.refl _) S3 (.pure (.bl _) o3.rest)⟩
        · exact q3.elim
      · rename_i c
        rw [if_neg c]
        exact q2 _ H2 Hz2 es2 (Ex.refl _) (fun _ => Ex.refl _) S2 (.pure (.bl _) o2.rest)
    · exact q2.elim
  · exact q.elim
abbrev bLt : Int → Int → Bool := fun i j => decide (i < j)
abbrev bLe : Int → Int → Bool := fun i j => decide (i ≤ j)
theorem se_chain {op op' : CmpOp} {g g' : Int → Int → Bool} (ho : OpR X (compareOp op) (rI0 fun i j => .bl (g i j))) (ho' : OpR X (compareOp op') (rI0 fun i j => .bl (g' i j))) (ha : SE X W sa a fa) (hb : SE X W sb b fb) (hc : SE X W sc c fc)
    (hm : lastMarks [op, op'] [b, c] = false := by with_unfolding_all rfl) (hs : s = true → sa = true ∧ sb = true ∧ sc = true := by first | exact fun _ => ⟨rfl, rfl, rfl⟩ | (intro z; cases z)) : SE X W s (.Compare a [op, op'] [b, c] pos) (eChain g g' fa fb fc) :=
  peImp (pe_chain ho ho' ha hb hc hm) fun σ H Q q => chain_core q hs
theorem st_chain {op op' : CmpOp} {g g' : Int → Int → Bool} (ho : OpR X (compareOp op) (rI0 fun i j => .bl (g i j))) (ho' : OpR X (compareOp op') (rI0 fun i j => .bl (g' i j))) (ha : SE X W sa a fa) (hb : SE X W sb b fb) (hc : SE X W sc c fc)
    (hm : lastMarks [op, op'] [b, c] = false := by with_unfolding_all rfl) (hs : s = true → sa = true ∧ sb = true ∧ sc = true := by first | exact fun _ => ⟨rfl, rfl, rfl⟩ | (intro z; cases z)) : ST X W s (.Compare a [op, op'] [b, c] pos) (eChain g g' fa fb fc) :=
  ptImp (pt_chain ho ho' ha hb hc hm) fun σ H Q q => chain_core q hs

/-! ### arguments, displays -/
inductive RA where
  | ok (xs : List RV) (ρ : Vr)
  | exc (C : Nm) (ns : List Nm) (xs : List D) (ρ : Vr)
  | stuck
/-- an argument: a value; a variable that is lent, to be given back -/
inductive Ar where
  | ev (f : EF)
  | io (i : Nat)
def evA : List Ar → Vr → RA
  | [], ρ => .ok [] ρ
  | .ev f :: r, ρ => match f ρ with
    | .ok x ρ1 => if x.b = true then .stuck else match evA r ρ1 with
      | .ok xs ρ2 => .ok (x :: xs) ρ2
      | .exc C ns ys ρ' => .exc C ns ys ρ'
      | .stuck => .stuck
    | .exc C ns ys ρ' => .exc C ns ys ρ'
    | .stuck => .stuck
  | .io i :: r, ρ => match ρ[i]? with
    | some (some (m, d)) => match evA r (ρ.set i none) with
      | .ok xs ρ2 => .ok (⟨m, false, d⟩ :: xs) ρ2
      | .exc C ns ys ρ' => .exc C ns ys ρ'
      | .stuck => .stuck
    | _ => .stuck
def zipE : List V → List RV → List Ent
  | v :: vs, x :: xs => ⟨v, x.q, x.d⟩ :: zipE vs xs
  | _, _ => []
/-- the lent ones are the variables' own -/
inductive Lent (σ : L2.St) : List Ar → List V → Prop
  | nil : Lent σ [] []
  | ev {f : EF} {r : List Ar} {v : V} {vs : List V} : Lent σ r vs → Lent σ (.ev f :: r) (v :: vs)
  | io {i : Nat} {r : List Ar} {v : V} {vs : List V} : σ[i]? = some (some v) → Lent σ r vs → Lent σ (.io i :: r) (v :: vs)
def RetA (K : PySem.W.Frag) (as : List Ar) (Fr : List Ent) (σ : L2.St) (Hz H : Hp) (s : Bool) (W : WX) (r : RA) (Q : List V → Hp → Prop) : Prop := match r with
  | .ok xs ρ' => ∀ vs H' Hz' es', Ex Hz Hz' → (s = true → Ex H H') → Slots σ ρ' es' → vs.length = xs.length → Lent σ as vs → R K (zipE vs xs ++ (es' ++ Fr)) Hz' H' → Q vs H'
  | .exc C ns xs ρ' => ∀ dx H' Hz' es', Ex Hz Hz' → ExcAt K Hz' ns xs dx → Slots σ ρ' es' → R K (es' ++ Fr) Hz' H' → W (.ref (ca K C)) dx σ H'
  | .stuck => False
def tA (K : PySem.W.Frag) (W : WX) (s : Bool) (as : List Ar) : TA := fun σ H Q => ∃ ρ es Fr Hz, Slots σ ρ es ∧ R K (es ++ Fr) Hz H ∧ RetA K as Fr σ Hz H s W (evA as ρ) Q
abbrev SA (X : Cx) (W : WX) (s : Bool) (es : List Expr) (as : List Ar) : Prop := PA X es (tA X.K W s as)
theorem paImp {es : List Expr} {t t' : TA} (h : PA X es t) (i : ∀ σ H Q, t' σ H Q → t σ H Q) : PA X es t' := ⟨fun pos pins s σ H Q I q => h.run pos pins s σ H Q I (i σ H Q q)⟩
theorem sa_nil : SA X W s [] [] := by
  refine paImp pa_nil fun σ H Q ⟨ρ, es, Fr, Hz, S, r, q⟩ => ?_
  exact q [] H Hz es (Ex.refl _) (fun _ => Ex.refl _) S rfl .nil r
theorem sa_ev {es : List Expr} {as : List Ar} (ha : SE X W sa a fa) (hr : SA X W sb es as) (hs : s = true → sa = true ∧ sb = true := by first | exact fun _ => ⟨rfl, rfl⟩ | (intro z; cases z)) (hst : starEach (a :: es) X.env = (false, eval a X.env) :: starEach es X.env := by rfl) : SA X W s (a :: es) (.ev fa :: as) := by
  refine paImp (pa_cons ha hr hst) fun σ H Q ⟨ρ, es, Fr, Hz, S, r, q⟩ => ⟨ρ, es, Fr, Hz, S, r, ?_⟩
  unfold evA at q
  cases e : fa ρ with
  | stuck => rw [e] at q; exact q
  | exc C ns xs ρ' => rw [e] at q; exact q
  | ok x ρ1 =>
    rw [e] at q
    dsimp only at q
    intro v H1 Hz1 es1 ez1 k1 S1 o1
    split at q
    · exact q.elim
    · rename_i hb
      have o1' := o1.own (by simpa using hb)
      refine ⟨ρ1, es1, ⟨v, x.q, x.d⟩ :: Fr, Hz1, S1, o1'.perm List.perm_middle.symm, ?_⟩
      cases e2 : evA as ρ1 with
      | stuck => rw [e2] at q; exact q
      | exc C ns xs ρ' =>
        rw [e2] at q
        exact fun dx H' Hz' es' ez a b c => q dx H' Hz' es' (ez1.trans ez) a b (c.perm List.perm_middle).tail
      | ok xs ρ2 =>
        rw [e2] at q
        intro vs H2 Hz2 es2 ez2 k2 S2 l2 t2 o2
        refine q (v :: vs) H2 Hz2 es2 (ez1.trans ez2) (fun z => (k1 (hs z).1).trans (k2 (hs z).2)) S2 (by rw [List.length_cons, List.length_cons, l2]) (.ev t2) (o2.perm ?_)
        show (zipE vs xs ++ (es2 ++ ⟨v, x.q, x.d⟩ :: Fr)).Perm (⟨v, x.q, x.d⟩ :: (zipE vs xs ++ (es2 ++ Fr)))
        rw [← List.append_assoc, ← List.append_assoc]
        exact List.perm_middle
theorem sa_io (i : Nat) {x : Str} {p : Pos} {es : List Expr} {as : List Ar} (hr : SA X W s es as) (hN : X.N[i]? = some x := by rfl) (hv : Vis X.env.scope x := by first | exact Or.inl rfl | exact Or.inr (Or.inl rfl) | exact Or.inr (Or.inr rfl)) (hd : (x == ("__debug__" : Str)) = false := by decide)
    (hcd : (x == ("__classdict__" : Str)) = false := by decide) (hst : starEach (.Name x p :: es) X.env = (false, eval (.Name x p) X.env) :: starEach es X.env := by rfl) : SA X W s (.Name x p :: es) (.io i :: as) := by
  refine paImp (pa_cons (pv i hN hv hd hcd) hr hst) fun σ H Q ⟨ρ, es, Fr, Hz, S, r, q⟩ => ?_
  unfold evA at q
  cases e : ρ[i]? with
  | none => rw [e] at q; exact q.elim
  | some o => cases o with
    | none => rw [e] at q; exact q.elim
    | some md =>
      obtain ⟨m, d⟩ := md
      rw [e] at q
      dsimp only at q
      obtain ⟨v, es', h1, h2, h3⟩ := S.take e
      refine ⟨v, h1, ρ.set i none, es', ⟨v, m, d⟩ :: Fr, Hz, h3, (r.perm (mid h2)).perm List.perm_middle.symm, ?_⟩
      cases e2 : evA as (ρ.set i none) with
      | stuck => rw [e2] at q; exact q
      | exc C ns xs ρ' =>
        rw [e2] at q
        exact fun dx H' Hz' es' ez a b c => q dx H' Hz' es' ez a b (c.perm List.perm_middle).tail
      | ok xs ρ2 =>
        rw [e2] at q
        intro vs H2 Hz2 es2 ez2 k2 S2 l2 t2 o2
        refine q (v :: vs) H2 Hz2 es2 ez2 k2 S2 (by rw [List.length_cons, List.length_cons, l2]) (.io h1 t2) (o2.perm ?_)
        show (zipE vs xs ++ (es2 ++ ⟨v, m, d⟩ :: Fr)).Perm (⟨v, m, d⟩ :: (zipE vs xs ++ (es2 ++ Fr)))
        rw [← List.append_assoc, ← List.append_assoc]
        exact List.perm_middle
@[simp] def RA.bind (r : RA) (f : List RV → EF) : RE := match r with
  | .ok xs ρ => f xs ρ
  | .exc C ns xs ρ => .exc C ns xs ρ
  | .stuck => .stuck
theorem oneA {as : List Ar} {k : List RV → EF} {Qk : List V → Hp → Prop} (h : tE K W s (fun ρ => (evA as ρ).bind k) σ H Q) (hs : s = true → sa = true)
    (hk : ∀ vs xs ρ1 es1 Fr Hz1 H1, Slots σ ρ1 es1 → vs.length = xs.length → Lent σ as vs → R K (zipE vs xs ++ (es1 ++ Fr)) Hz1 H1 → RetE K Fr σ Hz1 H1 s W (k xs ρ1) Q → Qk vs H1) : tA K W sa as σ H Qk := by
  obtain ⟨ρ, es, Fr, Hz, S, r, q⟩ := h
  refine ⟨ρ, es, Fr, Hz, S, r, ?_⟩
  dsimp only at q
  cases e : evA as ρ with
  | stuck => rw [e] at q; exact q
  | exc C ns xs ρ' => rw [e] at q; exact q
  | ok xs ρ1 =>
    rw [e] at q
    exact fun vs H1 Hz1 es1 ez k1 S1 l1 t1 o1 => hk vs xs ρ1 es1 Fr Hz1 H1 S1 l1 t1 o1 (q.base ez fun z => ⟨k1 (hs z), z⟩)
/-- the values at hand are all frozen from now on -/
theorem zip_frozen {Hz : Hp} {rest : List Ent} : ∀ {vs : List V} {xs : List RV}, vs.length = xs.length → R K (zipE vs xs ++ rest) Hz H → ∃ Hz', Ex Hz Hz' ∧ RpL K Hz' vs (xs.map (·.d)) ∧ R K rest Hz' H
  | [], [], _, r => ⟨Hz, Ex.refl _, .nil, r⟩
  | v :: vs, x :: xs, l, r => by
    obtain ⟨Hz1, e1, r1⟩ := R.weaken 0 (.inl (Nat.zero_le _)) (show R K (⟨v, x.q, x.d⟩ :: (zipE vs xs ++ rest)) Hz H from r)
    obtain ⟨Hz2, e2, l2, r2⟩ := zip_frozen (vs := vs) (xs := xs) (by simpa using l) r1.tail
    exact ⟨Hz2, e1.trans e2, .cons (r1.rp0.mono e2) l2, r2⟩
  | [], _ :: _, l, _ => by simp at l
  | _ :: _, [], l, _ => by simp at l
theorem zip_length {vs : List V} {xs : List RV} {rest : List Ent} {Hz : Hp} (l : vs.length = xs.length) (c : xs.length ≤ BIG) : vs.length ≤ sizeLine := by
  rw [l]; exact big_line c
/-- a tuple display: what it holds is frozen -/
def eTup (as : List Ar) : EF := fun ρ => (evA as ρ).bind fun xs ρ1 => if xs.length ≤ BIG then .ok (pureV (.tup (xs.map (·.d)))) ρ1 else .stuck
theorem se_tup {es : List Expr} {as : List Ar} {k : Nat} (h : SA X W s es as) : SE X W s (.Tuple es k pos) (eTup as) := by
  refine peImp (pe_tup h) fun σ H Q q => ?_
  refine oneA q id fun vs xs ρ1 es1 Fr Hz1 H1 S l t r q => ?_
  split at q
  · rename_i c
    refine ⟨by rw [l]; exact big_line c, fun p hp => ?_⟩
    obtain ⟨Hz2, e2, l2, r2⟩ := zip_frozen l r
    obtain ⟨e3, o3⟩ := new_tup r2 hp l2
    exact q _ _ _ es1 (e2.trans e3) (fun _ => Ex.new hp) S o3
  · exact q.elim
/-- a list display: its items are frozen -/
def eLst (as : List Ar) : EF := fun ρ => (evA as ρ).bind fun xs ρ1 => if xs.length ≤ BIG then .ok ⟨1, false, .lst (xs.map (·.d))⟩ ρ1 else .stuck
theorem se_lst {es : List Expr} {as : List Ar} (h : SA X W s es as) : SE X W s (.List es pos) (eLst as) := by
  refine peImp (pe_lst h) fun σ H Q q => ?_
  refine oneA q id fun vs xs ρ1 es1 Fr Hz1 H1 S l t r q => ?_
  split at q
  · rename_i c
    refine ⟨by rw [l]; exact big_line c, fun p hp => ?_⟩
    obtain ⟨Hz2, e2, l2, r2⟩ := zip_frozen l r
    exact q _ _ Hz2 es1 e2 (fun _ => Ex.new hp) S (new_lst r2 hp l2)
  · exact q.elim
/-- a list display of lists of one's own -/
theorem zip_owned {Hz : Hp} {rest : List Ent} {j : Nat} : ∀ {vs : List V} {xs : List RV}, vs.length = xs.length → (∀ x ∈ xs, j ≤ x.q ∨ immut x.d = true) → R K (zipE vs xs ++ rest) Hz H →
    ∃ Hz', Ex Hz Hz' ∧ R K (zipE vs (xs.map fun x => ⟨j, false, x.d⟩) ++ rest) Hz' H
  | [], [], _, _, r => ⟨Hz, Ex.refl _, r⟩
  | v :: vs, x :: xs, l, c, r => by
    obtain ⟨Hz1, e1, r1⟩ := R.weaken j (c x List.mem_cons_self) (show R K (⟨v, x.q, x.d⟩ :: (zipE vs xs ++ rest)) Hz H from r)
    have r2 := r1.perm (List.perm_middle (l₁ := zipE vs xs) (l₂ := rest) (a := (⟨v, j, x.d⟩ : Ent))).symm
    obtain ⟨Hz2, e2, r3⟩ := zip_owned (vs := vs) (xs := xs) (rest := ⟨v, j, x.d⟩ :: rest) (by simpa using l) (fun y hy => c y (List.mem_cons_of_mem _ hy)) r2
    exact ⟨Hz2, e1.trans e2, r3.perm List.perm_middle⟩
  | [], _ :: _, l, _, _ => by simp at l
  | _ :: _, [], l, _, _ => by simp at l
end
end Pd
end
section
/-! Pd: fields, items, slices, dicts asked. -/
namespace Pd
open PySem L2
/-- a part of a value at hand -/
def part (r : RV) (d : D) : Option RV := if r.q ≤ 1 ∨ immut d = true then some (pureV d) else if r.b = true then some ⟨r.q - 1, true, d⟩ else none
def lookN (x : Nm) : List Nm → List D → Option D
  | n :: ns, d :: ds => if n = x then some d else lookN x ns ds
  | _, _ => none
def lookD {κ : Type} [DecidableEq κ] : List κ → List D → κ → Option D
  | k0 :: ks, d :: ds, k => if k0 = k then some d else lookD ks ds k
  | _, _, _ => none
section
variable {X : Cx} {W : WX} {s sa sb sc : Bool} {pos : Pos} {K : PySem.W.Frag} {fa fb fc : EF} {σ : L2.St} {H Hz : Hp} {Q : VK} {a b c : Expr} {es : List Ent} {v : V} {x z : RV}
/-- what a part is, given where its whole lies -/
theorem part_ok {d : D} {w : V} {A : List Addr} (r : R K es Hz H) (h : Own K Hz H (x.q - 1) w d A) (e : part x d = some z) : RVok K Hz H w z es := by
  unfold part at e
  split at e
  · rename_i c
    cases e
    refine .pure ?_ r
    rcases c with c | c
    · have : x.q - 1 = 0 := by omega
      rw [this] at h
      exact h.zero.2
    · exact (h.imm c).2
  · split at e
    · cases e
      exact ⟨r, A, h⟩
    · cases e
theorem part_d {d : D} (e : part x d = some z) : z.d = d := by
  unfold part at e
  split at e
  · cases e; rfl
  · split at e
    · cases e; rfl
    · cases e
theorem OwnL.getV {m : Nat} : ∀ {vs : List V} {ds : List D} {A : List Addr} {i : Nat} {d : D}, OwnL K Hz H m vs ds A → ds[i]? = some d → ∃ v B, vs[i]? = some v ∧ Own K Hz H m v d B
  | _, _, _, _, _, .nil, e => by simp at e
  | _, _, _, 0, _, .cons h _, e => by simp at e; subst e; exact ⟨_, _, rfl, h⟩
  | _, _, _, i + 1, _, .cons _ r, e => by
    obtain ⟨v, B, h1, h2⟩ := OwnL.getV (i := i) r (by simpa using e)
    exact ⟨v, B, by simpa using h1, h2⟩
theorem OwnL.lookN {m : Nat} {f : Nm} (inj : ∀ n : Nm, n.str = f.str → n = f) : ∀ {ns : List Nm} {vs : List V} {ds : List D} {A : List Addr} {d : D}, OwnL K Hz H m vs ds A → Pd.lookN f ns ds = some d →
    ∃ v B, ((ns.map Nm.str).zip vs).lookup f.str = some v ∧ Own K Hz H m v d B
  | [], _, _, _, _, _, e => by simp [Pd.lookN] at e
  | _ :: _, _, _, _, _, .nil, e => by simp [Pd.lookN] at e
  | n :: ns, _, _, _, d, .cons h r, e => by
    unfold Pd.lookN at e
    rw [List.map_cons, List.zip_cons_cons, List.lookup_cons]
    by_cases c : n = f
    · rw [if_pos c] at e
      cases e
      subst c
      exact ⟨_, _, by simp, h⟩
    · rw [if_neg c] at e
      have hb : (f.str == n.str) = false := beq_eq_false_iff_ne.mpr fun q => c (inj n q.symm)
      rw [hb]
      exact OwnL.lookN inj r e
theorem OwnL.lookD {κ : Type} [DecidableEq κ] {m : Nat} {k : κ} : ∀ {ks : List κ} {vs : List V} {ds : List D} {A : List Addr}, OwnL K Hz H m vs ds A →
    (∀ d, Pd.lookD ks ds k = some d → ∃ v B, valV (ks.zip vs) k = some v ∧ Own K Hz H m v d B) ∧ (Pd.lookD ks ds k = none → valV (ks.zip vs) k = none)
  | [], _, _, _, _ => ⟨fun d e => by simp [Pd.lookD] at e, fun _ => by rw [List.zip_nil_left]; rfl⟩
  | _ :: _, _, _, _, .nil => ⟨fun d e => by simp [Pd.lookD] at e, fun _ => by rw [List.zip_nil_right]; rfl⟩
  | k0 :: ks, _, _, _, .cons h r => by
    obtain ⟨i1, i2⟩ := OwnL.lookD (k := k) (ks := ks) r
    refine ⟨fun d e => ?_, fun e => ?_⟩
    · unfold Pd.lookD at e
      rw [List.zip_cons_cons]
      by_cases c : k0 = k
      · rw [if_pos c] at e
        cases e
        exact ⟨_, _, valV_pos c, h⟩
      · rw [if_neg c] at e
        rw [valV_neg c]
        exact i1 d e
    · unfold Pd.lookD at e
      rw [List.zip_cons_cons]
      by_cases c : k0 = k
      · rw [if_pos c] at e
        cases e
      · rw [if_neg c] at e
        rw [valV_neg c]
        exact i2 e

/-! ### fields -/
/-- ft: which fields the objects of a class have -/
structure FldOk (K : PySem.W.Frag) (ft : Nm → List Nm) : Prop where
  cls : ∀ C f, f ∈ ft C → Cls K (ca K C) ∧ NoAttr K (ca K C) f.str
  inj : ∀ (f n : Nm), n.str = f.str → n = f
def oFld (ft : Nm → List Nm) (f : Nm) (x : RV) : Option RV := match x.d with
  | .ins C ns ds => if f ∈ ft C then (lookN f ns ds).bind (part x) else none
  | _ => none
def eFld (ft : Nm → List Nm) (f : Nm) (fa : EF) : EF := fun ρ => (fa ρ).bind fun x ρ1 => opE (oFld ft f x) ρ1
theorem opE_ok {o : Option RV} {ρ : Vr} {Fr : List Ent} (q : RetE K Fr σ Hz H s W (opE o ρ) Q) : ∃ z, o = some z ∧ ∀ es v, Slots σ ρ es → RVok K Hz H v z (es ++ Fr) → Q v H := by
  cases o with
  | none => exact q.elim
  | some z => exact ⟨z, rfl, fun es v S o => q v H Hz es (Ex.refl _) (fun _ => Ex.refl _) S o⟩
theorem se_fld {ft : Nm → List Nm} (F : FldOk X.K ft) (f : Nm) (ha : SE X W s a fa) (hb : attributeBase a f.str X.env (eval a X.env) = eval a X.env := by rfl) : SE X W s (.Attribute a f.str pos) (eFld ft f fa) := by
  refine peImp (pe_fld ha hb) fun σ H Q q => ?_
  refine one q id fun v x ρ1 es1 Fr Hz1 H1 S o q k => ?_
  obtain ⟨z, hz, fin⟩ := opE_ok q
  unfold oFld at hz
  split at hz
  · rename_i C ns ds e
    split at hz
    · rename_i hf
      obtain ⟨d, hd, hp⟩ := Option.bind_eq_some_iff.mp hz
      obtain ⟨p, dx, vs, A, rfl, h1, l, ow⟩ := o.view.ins o.rest.ex e
      obtain ⟨w, B, h2, h3⟩ := ow.lookN (F.inj f) hd
      obtain ⟨c1, c2⟩ := F.cls C f hf
      exact ⟨p, _, dx, _, w, rfl, h1, c1, c2, h2, fin es1 w S (part_ok o.rest h3 hp)⟩
    · cases hz
  · cases hz

/-! ### items -/
theorem atI_ex {α β : Type} {xs : List α} {ys : List β} (l : xs.length = ys.length) {i : Int} {y : β} (h : atI ys i = some y) : ∃ j : Nat, ys[j]? = some y ∧ ∀ x, xs[j]? = some x → atI xs i = some x := by
  obtain ⟨j, h1, h2⟩ := Option.bind_eq_some_iff.mp (show (ixN ys.length i).bind (fun j => ys[j]?) = some y from h)
  refine ⟨j, h2, fun x hx => ?_⟩
  show (ixN xs.length i).bind (fun j => xs[j]?) = some x
  rw [l, h1]
  exact hx
def oIdx : Op2 := fun x y => match x.d, y.d with
  | .lst ds, .int i => (atI ds i).bind (part x)
  | .tup ds, .int i => (atI ds i).map pureV
  | .frl ds, .int i => (atI ds i).map pureV
  | .str z, .int i => if z.length ≤ BIG then (atI z.cps.toList i).map fun c => pureV (.str ⟨#[c]⟩) else none
  | _, _ => none
def rIxA (K : PySem.W.Frag) : R2 := fun x y H Q => rIxL K x y H Q ∨ rIxT K x y H Q ∨ rIxS x y H Q
theorem ix_all : IxR X (rIxA X.K) := ix_list.or (ix_tup.or ix_str)
theorem ok_idx : OpOk K (rIxA K) oIdx := by
  intro v w x y z es Hz H Q r hx hy hz q
  unfold oIdx at hz
  split at hz
  · rename_i ds i e1 e2
    obtain ⟨d, hd, hp⟩ := Option.bind_eq_some_iff.mp hz
    obtain ⟨p, vs, A, rfl, h1, ow⟩ := hx.lst r.ex e1
    obtain ⟨j, hj, hv⟩ := atI_ex ow.length hd
    obtain ⟨u, B, hu, hB⟩ := ow.getV hj
    exact .inl ⟨p, vs, i, u, rfl, hy.int e2, .of h1, hv u hu, q u H Hz (Ex.refl _) (Ex.refl _) (part_ok r hB hp)⟩
  · rename_i ds i e1 e2
    obtain ⟨d, hd, hp⟩ := Option.map_eq_some_iff.mp hz
    subst hp
    obtain ⟨p, vs, rfl, h1, l⟩ := hx.tup e1
    obtain ⟨j, hj, hv⟩ := atI_ex l.length hd
    obtain ⟨u, hu, hB⟩ := l.get hj
    exact .inr (.inl ⟨p, vs, i, u, rfl, hy.int e2, .of (r.ex _ _ h1), hv u hu, q u H Hz (Ex.refl _) (Ex.refl _) (.pure hB r)⟩)
  · rename_i ds i e1 e2
    obtain ⟨d, hd, hp⟩ := Option.map_eq_some_iff.mp hz
    subst hp
    obtain ⟨p, vs, rfl, h1, l⟩ := hx.frl e1
    obtain ⟨j, hj, hv⟩ := atI_ex l.length hd
    obtain ⟨u, hu, hB⟩ := l.get hj
    exact .inl ⟨p, vs, i, u, rfl, hy.int e2, r.ex.sql h1, hv u hu, q u H Hz (Ex.refl _) (Ex.refl _) (.pure hB r)⟩
  · rename_i t i e1 e2
    split at hz
    · rename_i c
      obtain ⟨d, hd, hp⟩ := Option.map_eq_some_iff.mp hz
      subst hp
      exact .inr (.inr ⟨t, i, d, hx.str e1, hy.int e2, big_line c, hd, q _ H Hz (Ex.refl _) (Ex.refl _) (.pure (.str _) r)⟩)
    · cases hz
  · cases hz
theorem se_idx (ha : SE X W sa a fa) (hb : SE X W sb b fb) (hp : PlainIx b := by intro _ _; rfl) (hs : s = true → sa = true ∧ sb = true := by first | exact fun _ => ⟨rfl, rfl⟩ | (intro z; cases z)) : SE X W s (.Subscript a b pos) (e2 sb oIdx fa fb) := by
  refine peImp (pe_ix ix_all ha hb hp) fun σ H Q q => ?_
  refine two q hs fun v w x y ρ2 es2 Fr Hz2 H2 Hz0 S2 r2 v1 v2 ez k q2 => ?_
  obtain ⟨z, hz⟩ := opE_some q2
  exact ok_idx v w x y z _ Hz2 H2 Q r2 v1 v2 hz (fin2 hz ez k S2 q2)

/-! ### dicts -/
def keyOf : D → Option Key
  | .int i => some (.inl i)
  | .str x => some (.inr x)
  | _ => none
def keysOf : List D → Option (List Key)
  | [] => some []
  | d :: ds => match keyOf d, keysOf ds with
    | some k, some ks => some (k :: ks)
    | _, _ => none
def keyT : D → Option (List Key)
  | .tup ds => keysOf ds
  | _ => none
theorem keyOf_ok {k : Key} {v : V} {d : D} (h : Rp K Hz v d) (e : keyOf d = some k) : v = kV k := by
  cases h <;> simp [keyOf] at e <;> subst e <;> rfl
theorem keysOf_ok : ∀ {ks : List Key} {vs : List V} {ds : List D}, RpL K Hz vs ds → keysOf ds = some ks → vs = ks.map kV
  | ks, _, _, .nil, e => by simp [keysOf] at e; subst e; rfl
  | ks, _, _, .cons h r, e => by
    unfold keysOf at e
    split at e
    · rename_i k ks' e1 e2
      cases e
      rw [keyOf_ok h e1, keysOf_ok r e2, List.map_cons]
    · cases e
theorem keyT_ok {ks : List Key} {v : V} {d : D} (h : Rp K Hz v d) (e : keyT d = some ks) : ∃ b, v = .ref b ∧ Hz b = some (.tup (ks.map kV)) := by
  cases h with
  | tup h1 l => exact ⟨_, rfl, by rw [h1, keysOf_ok l e]⟩
  | _ => simp [keyT] at e
/-- what a dict has at a key: none: the key is no such key; some none: there is nothing -/
def dGet (x : D) (y : D) : Option (Option D) := match x with
  | .dk ks ds => (keyOf y).map (lookD ks ds)
  | .dt ks ds => (keyT y).map (lookD ks ds)
  | _ => none
theorem keyOf_imm {d : D} {k : Key} (e : keyOf d = some k) : immut d = true := by cases d <;> first | rfl | simp [keyOf] at e
theorem keyT_imm {d : D} {k : List Key} (e : keyT d = some k) : immut d = true := by cases d <;> first | rfl | simp [keyT] at e
theorem dGet_ok {v w : V} {x y : RV} {o : Option D} (r : R K es Hz H) (hx : View K Hz H v x) (hy : View K Hz H w y) (e : dGet x.d y.d = some o) :
    ∃ a p, v = .ref a ∧ DGet H a w p ∧ IsD H a ∧ (∀ d, o = some d → ∃ u B, p = some u ∧ Own K Hz H (x.q - 1) u d B) ∧ (o = none → p = none) := by
  unfold dGet at e
  split at e
  · rename_i ks ds e1
    obtain ⟨k, hk, ho⟩ := Option.map_eq_some_iff.mp e
    obtain ⟨a, vs, A, rfl, h1, l, ow⟩ := hx.dk r.ex e1
    have ew := keyOf_ok (hy.imm (keyOf_imm hk)) hk
    obtain ⟨i1, i2⟩ := ow.lookD (k := k) (ks := ks)
    refine ⟨a, valV (ks.zip vs) k, rfl, by rw [ew]; exact DGet.k h1, .inl ⟨_, .inl h1⟩, fun d hd => ?_, fun hn => i2 (ho.trans hn)⟩
    obtain ⟨u, B, hu, hB⟩ := i1 d (ho.trans hd)
    exact ⟨u, B, hu, hB⟩
  · rename_i ks ds e1
    obtain ⟨k, hk, ho⟩ := Option.map_eq_some_iff.mp e
    obtain ⟨a, vs, A, rfl, h1, l, ow⟩ := hx.dt r.ex e1
    obtain ⟨b, rfl, hb⟩ := keyT_ok (hy.imm (keyT_imm hk)) hk
    obtain ⟨i1, i2⟩ := ow.lookD (k := k) (ks := ks)
    refine ⟨a, valV (ks.zip vs) k, rfl, DGet.t h1 (r.ex _ _ hb), .inr ⟨_, .inl h1⟩, fun d hd => ?_, fun hn => i2 (ho.trans hn)⟩
    obtain ⟨u, B, hu, hB⟩ := i1 d (ho.trans hd)
    exact ⟨u, B, hu, hB⟩
  · cases e
def oDget : Op2 := fun x y => match dGet x.d y.d with
  | some (some d) => part x d
  | _ => none
theorem se_dget (hu : X.A.units + 1 < cLine) (ha : SE X W sa a fa) (hb : SE X W sb b fb) (hp : NoSl b := by intro _ _; rfl) (hs : s = true → sa = true ∧ sb = true := by first | exact fun _ => ⟨rfl, rfl⟩ | (intro z; cases z)) : SE X W s (.Subscript a b pos) (e2 sb oDget fa fb) := by
  refine peImp (pe_dget hu ha hb hp) fun σ H Q q => ?_
  refine two q hs fun v w x y ρ2 es2 Fr Hz2 H2 Hz0 S2 r2 v1 v2 ez k q2 => ?_
  obtain ⟨z, hz⟩ := opE_some q2
  have hz' := hz
  unfold oDget at hz
  split at hz
  · rename_i d e
    obtain ⟨a, p, rfl, hg, _, i1, _⟩ := dGet_ok r2 v1 v2 e
    obtain ⟨u, B, rfl, hB⟩ := i1 d rfl
    exact ⟨a, u, rfl, hg, fin2 hz' ez k S2 q2 u H2 Hz2 (Ex.refl _) (Ex.refl _) (part_ok r2 hB hz)⟩
  · cases hz
/-- y in d -/
def oDin (neg : Bool) : Op2 := fun y x => match dGet x.d y.d with
  | some o => some (pureV (.bl (o.isSome != neg)))
  | none => none
theorem din_core {neg : Bool} {r' : Bool → Bool} (hr : ∀ t, r' t = (t != neg)) (h : tE K W s (e2 sb (oDin neg) fa fb) σ H Q) (hs : s = true → sa = true ∧ sb = true) :
    tE K W sa fa σ H fun y H1 => tE K W sb fb σ H1 fun x H2 => ∃ a o, x = .ref a ∧ DGet H2 a y o ∧ Q (.bl (r' o.isSome)) H2 := by
  refine two h hs fun v w x y ρ2 es2 Fr Hz2 H2 Hz0 S2 r2 v1 v2 ez k q2 => ?_
  obtain ⟨z, hz⟩ := opE_some q2
  have hz' := hz
  unfold oDin at hz
  split at hz
  · rename_i o e
    cases hz
    obtain ⟨a, p, rfl, hg, _, i1, i2⟩ := dGet_ok r2 v2 v1 e
    refine ⟨a, p, rfl, hg, ?_⟩
    have hp : p.isSome = o.isSome := by
      cases o with
      | none => rw [i2 rfl]; rfl
      | some d =>
        obtain ⟨u, B, rfl, _⟩ := i1 d rfl
        rfl
    rw [hr, hp]
    exact fin2 hz' ez k S2 q2 _ H2 Hz2 (Ex.refl _) (Ex.refl _) (.pure (.bl _) r2)
  · cases hz
theorem se_din (hu : X.A.units + 1 < cLine) (ha : SE X W sa a fa) (hb : SE X W sb b fb) (hm : behindInMarks .In b = false := by rfl) (hs : s = true → sa = true ∧ sb = true := by first | exact fun _ => ⟨rfl, rfl⟩ | (intro z; cases z)) : SE X W s (.Compare a [.In] [b] pos) (e2 sb (oDin false) fa fb) :=
  peImp (pe_cmp (pc_din hu ha hb) hm) fun σ H Q q => din_core (r' := id) (fun t => by cases t <;> rfl) q hs
theorem st_din (hu : X.A.units + 1 < cLine) (ha : SE X W sa a fa) (hb : SE X W sb b fb) (hm : behindInMarks .In b = false := by rfl) (hs : s = true → sa = true ∧ sb = true := by first | exact fun _ => ⟨rfl, rfl⟩ | (intro z; cases z)) : ST X W s (.Compare a [.In] [b] pos) (e2 sb (oDin false) fa fb) :=
  ptImp (pt_cmp (pc_din hu ha hb) hm) fun σ H Q q => din_core (r' := id) (fun t => by cases t <;> rfl) q hs
theorem se_dnotin (hu : X.A.units + 1 < cLine) (ha : SE X W sa a fa) (hb : SE X W sb b fb) (hm : behindInMarks .NotIn b = false := by rfl) (hs : s = true → sa = true ∧ sb = true := by first | exact fun _ => ⟨rfl, rfl⟩ | (intro z; cases z)) : SE X W s (.Compare a [.NotIn] [b] pos) (e2 sb (oDin true) fa fb) :=
  peImp (pe_cmp (pc_dnotin hu ha hb) hm) fun σ H Q q => din_core (r' := not) (fun t => by cases t <;> rfl) q hs
theorem st_dnotin (hu : X.A.units + 1 < cLine) (ha : SE X W sa a fa) (hb : SE X W sb b fb) (hm : behindInMarks .NotIn b = false := by rfl) (hs : s = true → sa = true ∧ sb = true := by first | exact fun _ => ⟨rfl, rfl⟩ | (intro z; cases z)) : ST X W s (.Compare a [.NotIn] [b] pos) (e2 sb (oDin true) fa fb) :=
  ptImp (pt_cmp (pc_dnotin hu ha hb) hm) fun σ H Q q => din_core (r' := not) (fun t => by cases t <;> rfl) q hs
/-- {} -/
def eDkN : EF := fun ρ => .ok ⟨1, false, .dk [] []⟩ ρ
def eDtN : EF := fun ρ => .ok ⟨1, false, .dt [] []⟩ ρ
theorem se_dkN : SE X W s (.Dict [] [] pos) eDkN := by
  refine peImp pe_dnewK fun σ H Q ⟨ρ, es, Fr, Hz, S, r, q⟩ p hp => ?_
  refine q _ _ Hz es (Ex.refl _) (fun _ => Ex.new hp) S (.of rfl (R.alloc (fs := []) (m := 0) r hp fun A hA => ?_))
  cases hA
  exact .dk (ks := []) (vs := []) upd_same rfl .nil
theorem se_dtN : SE X W s (.Dict [] [] pos) eDtN := by
  refine peImp pe_dnewT fun σ H Q ⟨ρ, es, Fr, Hz, S, r, q⟩ p hp => ?_
  refine q _ _ Hz es (Ex.refl _) (fun _ => Ex.new hp) S (.of rfl (R.alloc (fs := []) (m := 0) r hp fun A hA => ?_))
  cases hA
  exact .dt (ks := []) (vs := []) upd_same rfl .nil

/-! ### slices -/
def optI : Option RV → Option (Option Int)
  | none => some none
  | some ⟨_, _, .int i⟩ => some (some i)
  | _ => none
def cutD (xs : List D) (lo hi : Option Int) : List D := (xs.drop (HT.sIx xs.length 0 lo)).take (HT.sIx xs.length xs.length hi - HT.sIx xs.length 0 lo)
theorem RpL.cut {vs : List V} {ds : List D} (h : RpL K Hz vs ds) (lo hi : Option Int) : RpL K Hz (cutV vs lo hi) (cutD ds lo hi) := by
  unfold cutV cutD
  rw [h.length]
  exact (h.drop _).take _
def oSlc (x : RV) (lo hi : Option Int) : Option RV := match x.d with
  | .lst ds => if x.q ≤ 1 then some ⟨1, false, .lst (cutD ds lo hi)⟩ else none
  | .frl ds => some ⟨1, false, .lst (cutD ds lo hi)⟩
  | .tup ds => some (pureV (.tup (cutD ds lo hi)))
  | .str z => if z.length ≤ BIG then some (pureV (.str (cutS z lo hi))) else none
  | _ => none
def rSlAll (K : PySem.W.Frag) : V → Option Int → Option Int → Hp → VK → Prop := fun x lo hi H Q => rSlL K x lo hi H Q ∨ rSlA K x lo hi H Q ∨ rSlS x lo hi H Q
theorem sl_all : SlR X (rSlAll X.K) := sl_list.or (sl_tupA.or sl_str)
theorem RetE.step {Fr : List Ent} {ρ : Vr} {k : RV → EF} {Qk : V → Hp → Prop} (S : Slots σ ρ es) (r : R K (es ++ Fr) Hz H) (q : RetE K Fr σ Hz H s W ((fa ρ).bind k) Q) (hs : s = true → sa = true)
    (hk : ∀ v x ρ1 es1 Hz1 H1, Ex Hz Hz1 → (sa = true → Ex H H1) → Slots σ ρ1 es1 → RVok K Hz1 H1 v x (es1 ++ Fr) → RetE K Fr σ Hz1 H1 s W (k x ρ1) Q → Qk v H1) : tE K W sa fa σ H Qk := by
  refine ⟨ρ, es, Fr, Hz, S, r, ?_⟩
  cases e : fa ρ with
  | stuck => rw [e] at q; exact q
  | exc C ns xs ρ' => rw [e] at q; exact q
  | ok x ρ1 =>
    rw [e] at q
    exact fun v H1 Hz1 es1 ez k1 S1 o1 => hk v x ρ1 es1 Hz1 H1 ez k1 S1 o1 (q.base ez fun z => ⟨k1 (hs z), z⟩)
/-- a part of a slice: left out, or a whole number -/
def evO (o : Option EF) : EF := match o with
  | none => eC .non
  | some f => f
def asO (o : Option EF) (x : RV) : Option (Option Int) := match o, x.d with
  | none, _ => some none
  | some _, .int i => some (some i)
  | some _, _ => none
def OPart (o : Option EF) (v : V) (i : Option Int) : Prop := match o with
  | none => i = none
  | some _ => ∃ j, v = .int j ∧ i = some j
def tO (K : PySem.W.Frag) (W : WX) (o : Option EF) : TO := fun σ H Q => tE K W true (evO o) σ H fun v H' => ∃ i, OPart o v i ∧ Q i H'
abbrev SO (X : Cx) (W : WX) (e : Option Expr) (o : Option EF) : Prop := PO X e (tO X.K W o)
theorem so_none : SO X W none none := by
  refine ⟨fun pins s σ H Q I h => po_none.run pins s σ H Q I ?_⟩
  obtain ⟨i, e, q⟩ := ec_ret (v := .non) h fun _ => .non
  cases e; exact q
theorem so_some (ha : SE X W true a fa) : SO X W (some a) (some fa) := by
  refine ⟨fun pins s σ H Q I h => (po_some ha).run pins s σ H Q I ?_⟩
  obtain ⟨ρ, es, Fr, Hz, S, r, q⟩ := h
  refine ⟨ρ, es, Fr, Hz, S, r, ?_⟩
  revert q
  show RetE _ _ _ _ _ _ _ (fa ρ) _ → RetE _ _ _ _ _ _ _ (fa ρ) _
  generalize fa ρ = rr
  intro q
  cases rr with
  | stuck => exact q
  | exc => exact q
  | ok x ρ' =>
    intro v H' Hz' es' e k S' o
    obtain ⟨i, ⟨j, e1, e2⟩, q2⟩ := q v H' Hz' es' e k S' o
    subst e2
    exact ⟨j, e1, q2⟩
def eSlc (fa : EF) (lo hi : Option EF) : EF := fun ρ => (fa ρ).bind fun x ρ1 => if (x.b && !true) = true then .stuck else (evO lo ρ1).bind fun l ρ2 => match asO lo l with
  | some i => (evO hi ρ2).bind fun h ρ3 => match asO hi h with
    | some j => opE (oSlc x i j) ρ3
    | none => .stuck
  | none => .stuck
theorem ok_slc {lo hi : Option Int} (r : R K es Hz H) (hx : View K Hz H v x) (hz : oSlc x lo hi = some z) (q : ∀ u H' Hz', Ex Hz Hz' → Ex H H' → RVok K Hz' H' u z es → Q u H') : rSlAll K v lo hi H Q := by
  unfold oSlc at hz
  split at hz
  · rename_i ds e
    split at hz
    · rename_i c
      cases hz
      obtain ⟨a, vs, A, rfl, h1, ow⟩ := hx.lst r.ex e
      exact .inl ⟨a, vs, rfl, .of h1, fun p hp => q _ _ Hz (Ex.refl _) (Ex.new hp) (new_lst r hp ((ow.one c).cut lo hi))⟩
    · cases hz
  · rename_i ds e
    cases hz
    obtain ⟨a, vs, rfl, h1, l⟩ := hx.frl e
    exact .inl ⟨a, vs, rfl, r.ex.sql h1, fun p hp => q _ _ Hz (Ex.refl _) (Ex.new hp) (new_lst r hp (l.cut lo hi))⟩
  · rename_i ds e
    cases hz
    obtain ⟨a, vs, rfl, h1, l⟩ := hx.tup e
    refine .inr (.inl ⟨a, vs, rfl, .of (r.ex _ _ h1), fun c => ?_, fun _ p hp => ?_⟩)
    · have e1 : cutV vs lo hi = vs := by
        unfold cutV
        rw [c.1, c.2, List.drop_zero, Nat.sub_zero, List.take_length]
      have l2 := l.cut lo hi
      rw [e1] at l2
      exact q _ H Hz (Ex.refl _) (Ex.refl _) (.pure (.tup h1 l2) r)
    · obtain ⟨e3, o3⟩ := new_tup r hp (l.cut lo hi)
      exact q _ _ _ e3 (Ex.new hp) o3
  · rename_i t e
    split at hz
    · rename_i c
      cases hz
      exact .inr (.inr ⟨t, hx.str e, big_line c, q _ H Hz (Ex.refl _) (Ex.refl _) (.pure (.str _) r)⟩)
    · cases hz
  · cases hz
theorem asO_ok {o : Option EF} {v : V} {i : Option Int} (h : asO o x = some i) (hv : View K Hz H v x) : OPart o v i := by
  unfold asO at h
  split at h
  · cases h; rfl
  · rename_i e
    cases h
    exact ⟨_, hv.int e, rfl⟩
  · cases h
theorem se_slc {lo hi : Option Expr} {ol oh : Option EF} {p2 : Pos} (ha : SE X W sa a fa) (hl : SO X W lo ol) (hh : SO X W hi oh) (hs : s = true → sa = true := by first | exact fun _ => rfl | (intro z; cases z)) : SE X W s (.Subscript a (.Slice lo hi none p2) pos) (eSlc fa ol oh) := by
  refine peImp (pe_slice sl_all ha hl hh) fun σ H Q q => ?_
  have q' : tE X.K W s (fun ρ => (fa ρ).bind fun x ρ1 => if (x.b && !true) = true then .stuck else (evO ol ρ1).bind fun y ρ2 => (fun l => fun ρ2 => match asO ol l with
    | some i => (evO oh ρ2).bind fun h ρ3 => match asO oh h with
      | some j => opE (oSlc x i j) ρ3
      | none => .stuck
    | none => .stuck) y ρ2) σ H Q := q
  have t := two (Qk := fun v w H2 => ∃ i, OPart ol w i ∧ tE X.K W true (evO oh) σ H2 fun u H3 => ∃ j, OPart oh u j ∧ rSlAll X.K v i j H3 Q) q' (fun z => ⟨hs z, rfl⟩)
    fun v w x y ρ2 es2 Fr Hz2 H2 Hz0 S2 r2 v1 v2 ez k q2 => ?_
  · obtain ⟨ρ, es, Fr, Hz, S, r, q3⟩ := t
    refine ⟨ρ, es, Fr, Hz, S, r, ?_⟩
    revert q3
    generalize fa ρ = rr
    intro q3
    cases rr with
    | stuck => exact q3
    | exc => exact q3
    | ok x ρ' =>
      intro v H' Hz' es' e k S' o
      obtain ⟨ρ4, es4, Fr4, Hz4, S4, r4, q4⟩ := q3 v H' Hz' es' e k S' o
      refine ⟨ρ4, es4, Fr4, Hz4, S4, r4, ?_⟩
      revert q4
      generalize evO ol ρ4 = rr
      intro q4
      cases rr with
      | stuck => exact q4
      | exc => exact q4
      | ok y ρ5 =>
        intro w H5 Hz5 es5 e5 k5 S5 o5
        obtain ⟨i, hi, t5⟩ := q4 w H5 Hz5 es5 e5 k5 S5 o5
        exact ⟨i, hi, t5⟩
  · have q3 := q2.base ez (s' := s) fun z => ⟨k z, z⟩
    cases e1 : asO ol y with
    | none => simp only [e1] at q3; exact q3.elim
    | some i =>
      simp only [e1] at q3
      refine ⟨i, asO_ok e1 v2, RetE.step S2 r2 q3 (fun _ => rfl) fun u h ρ3 es3 Hz3 H3 e3 k3 S3 o3 q4 => ?_⟩
      cases e2 : asO oh h with
      | none => simp only [e2] at q4; exact q4.elim
      | some j =>
        simp only [e2] at q4
        obtain ⟨z, hz, fin⟩ := opE_ok q4
        refine ⟨j, asO_ok e2 o3.view, ok_slc o3.rest (v1.mono e3 (k3 rfl)) hz fun u' H' Hz' a b c => ?_⟩
        rw [hz] at q4
        exact q4 u' H' Hz' es3 a (fun _ => b) S3 c
end
end Pd
end
section
/-! Pd: an owned object is changed. -/
namespace Pd
open PySem L2
section
variable {K : PySem.W.Frag} {Hz H : Hp} {es fs : List Ent}
theorem OwnE.split : ∀ {fs es : List Ent} {A : List Addr}, OwnE K Hz H (fs ++ es) A → ∃ B C, A = B ++ C ∧ OwnE K Hz H fs B ∧ OwnE K Hz H es C
  | [], _, A, h => ⟨[], A, rfl, .nil, h⟩
  | e :: fs, _, _, .cons h r => by
    obtain ⟨B, C, rfl, b, c⟩ := OwnE.split (fs := fs) r
    exact ⟨_, C, by rw [List.append_assoc], .cons h b, c⟩
/-- the object at a, owned by the head entry, becomes o; what stands in fs goes into it -/
theorem R.change2 {a : Addr} {o : HO} {v : V} {m : Nat} {d d' : D} (h : R K (⟨v, m, d⟩ :: (fs ++ es)) Hz H)
    (step : ∀ A C, Own K Hz H m v d A → OwnE K Hz H fs C → (A ++ C).Nodup → ∃ A' L, (A ++ C).Perm (A' ++ L) ∧ a ∈ A ∧ Own K Hz (upd H a o) m v d' A') : R K (⟨v, m, d'⟩ :: es) Hz (upd H a o) := by
  obtain ⟨ex, A, o', n, z⟩ := h
  cases o' with
  | @cons _ _ A1 B1 h r =>
    obtain ⟨B2, C2, rfl, b, c⟩ := OwnE.split r
    rw [← List.append_assoc] at n z
    obtain ⟨n1, n2, n3⟩ := List.nodup_append.mp n
    obtain ⟨A', L, p, inA, own⟩ := step A1 B2 h b n1
    have ac : a ∉ C2 := fun hm => n3 a (List.mem_append_left _ inA) a hm rfl
    have hz : Hz a = none := z a (List.mem_append_left _ (List.mem_append_left _ inA))
    have p2 : (A1 ++ B2 ++ C2).Perm (L ++ (A' ++ C2)) := by
      refine (p.append_right C2).trans ?_
      rw [← List.append_assoc L A' C2]
      exact List.perm_append_comm.append_right _
    refine ⟨ex.mut hz, A' ++ C2, .cons own (c.mono (Ex.refl _) fun x hx => upd_ne fun e => ac (e ▸ hx)), (List.nodup_append.mp (p2.nodup_iff.mp n)).2.1, fun x hx => z x (p2.mem_iff.mpr (List.mem_append_right _ hx))⟩
/-- two entries into one: the head is of a list -/
theorem Own.lst_inv {m : Nat} {v : V} {ds : List D} {A : List Addr} (h : Own K Hz H (m + 1) v (.lst ds) A) : ∃ a vs B, v = .ref a ∧ A = a :: B ∧ H a = some (.lst vs) ∧ OwnL K Hz H m vs ds B := by
  cases h with
  | fz c r => rcases c with c | c <;> cases c
  | lst h1 h2 => exact ⟨_, _, _, rfl, rfl, h1, h2⟩
theorem Own.dk_inv {m : Nat} {v : V} {ks : List Key} {ds : List D} {A : List Addr} (h : Own K Hz H (m + 1) v (.dk ks ds) A) : ∃ a vs B, v = .ref a ∧ A = a :: B ∧ H a = some (.dK (ks.zip vs)) ∧ ks.length = vs.length ∧ OwnL K Hz H m vs ds B := by
  cases h with
  | fz c r => rcases c with c | c <;> cases c
  | dk h1 l h2 => exact ⟨_, _, _, rfl, rfl, h1, l, h2⟩
theorem Own.dt_inv {m : Nat} {v : V} {ks : List (List Key)} {ds : List D} {A : List Addr} (h : Own K Hz H (m + 1) v (.dt ks ds) A) : ∃ a vs B, v = .ref a ∧ A = a :: B ∧ H a = some (.dT (ks.zip vs)) ∧ ks.length = vs.length ∧ OwnL K Hz H m vs ds B := by
  cases h with
  | fz c r => rcases c with c | c <;> cases c
  | dt h1 l h2 => exact ⟨_, _, _, rfl, rfl, h1, l, h2⟩
theorem Own.ins_inv {m : Nat} {v : V} {C : Nm} {ns : List Nm} {ds : List D} {A : List Addr} (h : Own K Hz H (m + 1) v (.ins C ns ds) A) : ∃ a dx vs B, v = .ref a ∧ A = a :: B ∧ H a = some (.ins (ca K C) dx ((ns.map Nm.str).zip vs)) ∧ ns.length = vs.length ∧ OwnL K Hz H m vs ds B := by
  cases h with
  | fz c r => rcases c with c | c <;> cases c
  | ins h1 l h2 => exact ⟨_, _, _, _, rfl, rfl, h1, l, h2⟩
theorem R.head_inv {e : Ent} (h : R K (e :: es) Hz H) : ∃ A, Own K Hz H e.m e.v e.d A := h.head
/-- the children keep, their own address aside -/
theorem OwnL.aside {m : Nat} {a : Addr} {o : HO} {vs : List V} {ds : List D} {B : List Addr} (h : OwnL K Hz H m vs ds B) (hn : a ∉ B) : OwnL K Hz (upd H a o) m vs ds B :=
  h.mono (Ex.refl _) fun b hb => upd_ne fun e => hn (e ▸ hb)
theorem Own.aside {m : Nat} {a : Addr} {o : HO} {v : V} {d : D} {B : List Addr} (h : Own K Hz H m v d B) (hn : a ∉ B) : Own K Hz (upd H a o) m v d B :=
  h.mono (Ex.refl _) fun b hb => upd_ne fun e => hn (e ▸ hb)
/-- an item at the end -/
theorem R.append {a : Addr} {vs : List V} {ds : List D} {m : Nat} {w : V} {d : D} (h : R K (⟨.ref a, m + 1, .lst ds⟩ :: ⟨w, m, d⟩ :: es) Hz H) (ha : H a = some (.lst vs)) : R K (⟨.ref a, m + 1, .lst (ds ++ [d])⟩ :: es) Hz (upd H a (.lst (vs ++ [w]))) := by
  refine R.change2 (fs := [⟨w, m, d⟩]) h fun A C hA hC n => ?_
  obtain ⟨a', vs', B, e1, rfl, h1, l⟩ := hA.lst_inv
  cases e1
  rw [ha] at h1; cases h1
  cases hC with
  | @cons _ _ C1 C2 hc hr =>
    cases hr
    rw [List.append_nil] at n ⊢
    have n' : a ∉ B ++ C1 := (List.nodup_cons.mp n).1
    refine ⟨a :: (B ++ (C1 ++ [])), [], by simp, List.mem_cons_self, .lst upd_same ((l.aside fun z => n' (List.mem_append_left _ z)).append (.cons (hc.aside fun z => n' (List.mem_append_right _ z)) .nil))⟩
/-- many frozen items at the end -/
theorem R.extend {a : Addr} {vs ws : List V} {ds fs : List D} (h : R K (⟨.ref a, 1, .lst ds⟩ :: es) Hz H) (ha : H a = some (.lst vs)) (hw : RpL K Hz ws fs) : R K (⟨.ref a, 1, .lst (ds ++ fs)⟩ :: es) Hz (upd H a (.lst (vs ++ ws))) := by
  refine R.change2 (fs := []) (es := es) h fun A C hA hC n => ?_
  obtain ⟨a', vs', B, e1, rfl, h1, l⟩ := hA.lst_inv
  cases e1
  rw [ha] at h1; cases h1
  cases hC
  obtain ⟨rfl, l0⟩ := l.zero
  exact ⟨[a], [], by simp, List.mem_cons_self, .lst upd_same (OwnL.of_zero 0 (l0.append hw))⟩
theorem OwnL.setI {m : Nat} {w : V} {d : D} {C : List Addr} (hw : Own K Hz H m w d C) : ∀ {vs : List V} {ds : List D} {A : List Addr} (i : Nat), i < ds.length → OwnL K Hz H m vs ds A → ∃ A' L, (A ++ C).Perm (A' ++ L) ∧ OwnL K Hz H m (vs.set i w) (ds.set i d) A'
  | _, _, _, _, hi, .nil => by simp at hi
  | _, _, _, 0, _, .cons (A := A) (B := B) h r => ⟨C ++ B, A, by
      rw [List.append_assoc]
      exact List.perm_append_comm.trans (List.perm_append_comm.append_right _), .cons hw r⟩
  | _, _, _, i + 1, hi, .cons (A := A) (B := B) h r => by
    obtain ⟨A', L, p, q⟩ := OwnL.setI hw i (by simpa using hi) r
    exact ⟨A ++ A', L, by rw [List.append_assoc, List.append_assoc]; exact p.append_left _, .cons h q⟩
/-- an item is replaced -/
theorem R.setI {a : Addr} {vs : List V} {ds : List D} {m i : Nat} {w : V} {d : D} (hi : i < ds.length) (h : R K (⟨.ref a, m + 1, .lst ds⟩ :: ⟨w, m, d⟩ :: es) Hz H) (ha : H a = some (.lst vs)) : R K (⟨.ref a, m + 1, .lst (ds.set i d)⟩ :: es) Hz (upd H a (.lst (vs.set i w))) := by
  refine R.change2 (fs := [⟨w, m, d⟩]) h fun A C hA hC n => ?_
  obtain ⟨a', vs', B, e1, rfl, h1, l⟩ := hA.lst_inv
  cases e1
  rw [ha] at h1; cases h1
  cases hC with
  | @cons _ _ C1 C2 hc hr =>
    cases hr
    rw [List.append_nil] at n ⊢
    have n' : a ∉ B ++ C1 := (List.nodup_cons.mp n).1
    obtain ⟨A', L, p, q⟩ := OwnL.setI (hc.aside (o := .lst (vs.set i w)) fun z => n' (List.mem_append_right _ z)) i hi (l.aside fun z => n' (List.mem_append_left _ z))
    exact ⟨a :: A', L, by rw [List.cons_append, List.cons_append]; exact p.cons _, List.mem_cons_self, .lst upd_same q⟩
/-- the last item is taken -/
theorem OwnL.init {m : Nat} : ∀ {vs : List V} {ds : List D} {A : List Addr}, OwnL K Hz H m vs ds A → ∃ A' L, A.Perm (A' ++ L) ∧ OwnL K Hz H m vs.dropLast ds.dropLast A'
  | _, _, _, .nil => ⟨[], [], by simp, .nil⟩
  | _, _, _, .cons (A := A) h .nil => ⟨[], A, by simp, .nil⟩
  | _, _, _, .cons (A := A) h (.cons h2 r) => by
    obtain ⟨A', L, p, q⟩ := OwnL.init (.cons h2 r)
    exact ⟨A ++ A', L, by rw [List.append_assoc]; exact p.append_left _, .cons h q⟩
theorem R.init {a : Addr} {vs : List V} {ds : List D} {m : Nat} (h : R K (⟨.ref a, m + 1, .lst ds⟩ :: es) Hz H) (ha : H a = some (.lst vs)) : R K (⟨.ref a, m + 1, .lst ds.dropLast⟩ :: es) Hz (upd H a (.lst vs.dropLast)) := by
  refine R.change2 (fs := []) (es := es) h fun A C hA hC n => ?_
  obtain ⟨a', vs', B, e1, rfl, h1, l⟩ := hA.lst_inv
  cases e1
  rw [ha] at h1; cases h1
  cases hC
  rw [List.append_nil] at n ⊢
  obtain ⟨A', L, p, q⟩ := (l.aside (o := .lst vs.dropLast) (List.nodup_cons.mp n).1).init
  exact ⟨a :: A', L, p.cons _, List.mem_cons_self, .lst upd_same q⟩
/-! fields -/
def putNs (f : Nm) : List Nm → List Nm
  | [] => [f]
  | n :: ns => if n = f then n :: ns else n :: putNs f ns
def putDs (f : Nm) (d : D) : List Nm → List D → List D
  | n :: ns, e :: ds => if n = f then d :: ds else e :: putDs f d ns ds
  | _, _ => [d]
theorem OwnL.putN {m : Nat} {w : V} {d : D} {C : List Addr} {f : Nm} (inj : ∀ n : Nm, n.str = f.str → n = f) (hw : Own K Hz H m w d C) : ∀ {ns : List Nm} {vs : List V} {ds : List D} {A : List Addr}, ns.length = vs.length → OwnL K Hz H m vs ds A →
    ∃ vs' A' L, putF f.str w ((ns.map Nm.str).zip vs) = ((putNs f ns).map Nm.str).zip vs' ∧ (putNs f ns).length = vs'.length ∧ (A ++ C).Perm (A' ++ L) ∧ OwnL K Hz H m vs' (putDs f d ns ds) A'
  | [], _, _, _, _, .nil => ⟨[w], C ++ [], [], rfl, rfl, by simp, .cons hw .nil⟩
  | [], _ :: _, _, _, l, _ => by simp at l
  | _ :: _, [], _, _, l, _ => by simp at l
  | n :: ns, v :: vs, _, _, l, .cons (d := e) (ds := ds) (A := A) (B := B) h r => by
    rw [List.map_cons, List.zip_cons_cons]
    unfold putNs putDs
    by_cases c : n = f
    · subst c
      refine ⟨w :: vs, C ++ B, A, ?_, by rw [if_pos rfl, List.length_cons, List.length_cons]; simpa using l, ?_, by rw [if_pos rfl]; exact .cons hw r⟩
      · rw [if_pos rfl]
        show (if n.str = n.str then _ else _) = _
        rw [if_pos rfl]
        rfl
      · rw [List.append_assoc]
        exact List.perm_append_comm.trans (List.perm_append_comm.append_right _)
    · obtain ⟨vs', A', L, e1, e2, p, q⟩ := OwnL.putN inj hw (ns := ns) (by simpa using l) r
      refine ⟨v :: vs', A ++ A', L, ?_, by rw [if_neg c, List.length_cons, List.length_cons, e2], ?_, by rw [if_neg c]; exact .cons h q⟩
      · rw [if_neg c]
        show (if n.str = f.str then _ else _) = _
        rw [if_neg fun z => c (inj n z), e1]
        rfl
      · rw [List.append_assoc, List.append_assoc]
        exact p.append_left _
theorem R.putN {a dx : Addr} {C : Nm} {ns : List Nm} {vs : List V} {ds : List D} {m : Nat} {w : V} {d : D} {f : Nm} (inj : ∀ n : Nm, n.str = f.str → n = f) (h : R K (⟨.ref a, m + 1, .ins C ns ds⟩ :: ⟨w, m, d⟩ :: es) Hz H) (ha : H a = some (.ins (ca K C) dx ((ns.map Nm.str).zip vs))) (l : ns.length = vs.length) :
    R K (⟨.ref a, m + 1, .ins C (putNs f ns) (putDs f d ns ds)⟩ :: es) Hz (upd H a (.ins (ca K C) dx (putF f.str w ((ns.map Nm.str).zip vs)))) := by
  refine R.change2 (fs := [⟨w, m, d⟩]) h fun A C' hA hC n => ?_
  obtain ⟨a', dx', vs', B, e1, rfl, h1, l1, ow⟩ := hA.ins_inv
  cases e1
  rw [ha] at h1
  have ev : vs = vs' := by
    have e2 : (ns.map Nm.str).zip vs = (ns.map Nm.str).zip vs' := by
      have := Option.some.inj h1
      injection this
    have e3 := congrArg (List.map Prod.snd) e2
    rw [List.map_snd_zip (by rw [List.length_map]; omega), List.map_snd_zip (by rw [List.length_map]; omega)] at e3
    exact e3
  subst ev
  cases hC with
  | @cons _ _ C1 C2 hc hr =>
    cases hr
    rw [List.append_nil] at n ⊢
    have n' : a ∉ B ++ C1 := (List.nodup_cons.mp n).1
    obtain ⟨vs', A', L, e1, e2, p, q⟩ := OwnL.putN inj (hc.aside (a := a) (o := .ins (ca K C) dx (putF f.str w ((ns.map Nm.str).zip vs))) fun z => n' (List.mem_append_right _ z)) l (ow.aside fun z => n' (List.mem_append_left _ z))
    refine ⟨a :: A', L, by rw [List.cons_append, List.cons_append]; exact p.cons _, List.mem_cons_self, .ins (dx := dx) ?_ e2 q⟩
    rw [upd_same, e1]
/-! dicts -/
def putKs {κ : Type} [DecidableEq κ] (k : κ) : List κ → List κ
  | [] => [k]
  | k0 :: ks => if k0 = k then k0 :: ks else k0 :: putKs k ks
def putKd {κ : Type} [DecidableEq κ] (k : κ) (d : D) : List κ → List D → List D
  | k0 :: ks, e :: ds => if k0 = k then d :: ds else e :: putKd k d ks ds
  | _, _ => [d]
theorem putK_cons_pos {κ : Type} [DecidableEq κ] {p : κ × V} {r : List (κ × V)} {k : κ} {v : V} (e : p.1 = k) (n : valV r k = none) : putK (p :: r) k v = (p.1, v) :: r := by
  unfold putK
  rw [valV_any, valV_pos e]
  show (if true = true then _ else _) = _
  rw [if_pos rfl, List.map_cons, if_pos e]
  congr 1
  have : ∀ q ∈ r, ¬ q.1 = k := fun q hq z => by
    have h1 : (r.any fun kv => decide (kv.1 = k)) = true := List.any_eq_true.mpr ⟨q, hq, decide_eq_true z⟩
    rw [valV_any, n] at h1
    cases h1
  have e3 : r.map (fun kv => if kv.1 = k then (kv.1, v) else kv) = r.map id := List.map_congr_left fun q hq => if_neg (this q hq)
  rw [e3, List.map_id]
theorem putK_cons_neg {κ : Type} [DecidableEq κ] {p : κ × V} {r : List (κ × V)} {k : κ} {v : V} (e : ¬ p.1 = k) : putK (p :: r) k v = p :: putK r k v := by
  unfold putK
  rw [valV_any, valV_any, valV_neg e]
  by_cases c : (valV r k).isSome = true
  · rw [if_pos c, if_pos c, List.map_cons, if_neg e]
  · rw [if_neg c, if_neg c, List.cons_append]
theorem OwnL.putK {κ : Type} [DecidableEq κ] {m : Nat} {w : V} {d : D} {C : List Addr} {k : κ} (hw : Own K Hz H m w d C) : ∀ {ks : List κ} {vs : List V} {ds : List D} {A : List Addr}, ks.Nodup → ks.length = vs.length → OwnL K Hz H m vs ds A →
    ∃ vs' A' L, L2.putK (ks.zip vs) k w = (putKs k ks).zip vs' ∧ (putKs k ks).length = vs'.length ∧ (A ++ C).Perm (A' ++ L) ∧ OwnL K Hz H m vs' (putKd k d ks ds) A'
  | [], _, _, _, _, _, .nil => ⟨[w], C ++ [], [], rfl, rfl, by simp, .cons hw .nil⟩
  | [], _ :: _, _, _, _, l, _ => by simp at l
  | _ :: _, [], _, _, _, l, _ => by simp at l
  | k0 :: ks, v :: vs, _, _, nd, l, .cons (d := e) (ds := ds) (A := A) (B := B) h r => by
    rw [List.zip_cons_cons]
    unfold putKs putKd
    by_cases c : k0 = k
    · subst c
      refine ⟨w :: vs, C ++ B, A, ?_, by rw [if_pos rfl, List.length_cons, List.length_cons]; simpa using l, ?_, by rw [if_pos rfl]; exact .cons hw r⟩
      · rw [if_pos rfl, putK_cons_pos (p := (k0, v)) rfl ?_]
        · rfl
        · cases q : valV (ks.zip vs) k0 with
          | none => rfl
          | some x =>
            have h1 : ((ks.zip vs).any fun kv => decide (kv.1 = k0)) = true := by rw [valV_any, q]; rfl
            obtain ⟨z, hz, ez⟩ := List.any_eq_true.mp h1
            exact absurd (of_decide_eq_true ez ▸ (List.of_mem_zip hz).1) (List.nodup_cons.mp nd).1
      · rw [List.append_assoc]
        exact List.perm_append_comm.trans (List.perm_append_comm.append_right _)
    · obtain ⟨vs', A', L, e1, e2, p, q⟩ := OwnL.putK hw (ks := ks) (List.nodup_cons.mp nd).2 (by simpa using l) r
      refine ⟨v :: vs', A ++ A', L, ?_, by rw [if_neg c, List.length_cons, List.length_cons, e2], ?_, by rw [if_neg c]; exact .cons h q⟩
      · rw [if_neg c, putK_cons_neg (p := (k0, v)) c, e1]
        rfl
      · rw [List.append_assoc, List.append_assoc]
        exact p.append_left _
theorem zip_inj {α : Type} {ks : List α} {vs vs' : List V} (l : ks.length = vs.length) (l' : ks.length = vs'.length) (e : ks.zip vs = ks.zip vs') : vs = vs' := by
  have e3 := congrArg (List.map Prod.snd) e
  rw [List.map_snd_zip (by omega), List.map_snd_zip (by omega)] at e3
  exact e3
theorem R.putDk {a : Addr} {ks : List Key} {vs : List V} {ds : List D} {m : Nat} {w : V} {d : D} {k : Key} (nd : ks.Nodup) (h : R K (⟨.ref a, m + 1, .dk ks ds⟩ :: ⟨w, m, d⟩ :: es) Hz H) (ha : H a = some (.dK (ks.zip vs))) (l : ks.length = vs.length) :
    R K (⟨.ref a, m + 1, .dk (putKs k ks) (putKd k d ks ds)⟩ :: es) Hz (upd H a (.dK (L2.putK (ks.zip vs) k w))) := by
  refine R.change2 (fs := [⟨w, m, d⟩]) h fun A C' hA hC n => ?_
  obtain ⟨a', vs', B, e1, rfl, h1, l1, ow⟩ := hA.dk_inv
  cases e1
  rw [ha] at h1
  have ev : vs = vs' := zip_inj l l1 (by have := Option.some.inj h1; injection this)
  subst ev
  cases hC with
  | @cons _ _ C1 C2 hc hr =>
    cases hr
    rw [List.append_nil] at n ⊢
    have n' : a ∉ B ++ C1 := (List.nodup_cons.mp n).1
    obtain ⟨vs', A', L, e1, e2, p, q⟩ := OwnL.putK (k := k) (hc.aside (a := a) (o := .dK (L2.putK (ks.zip vs) k w)) fun z => n' (List.mem_append_right _ z)) nd l (ow.aside fun z => n' (List.mem_append_left _ z))
    refine ⟨a :: A', L, by rw [List.cons_append, List.cons_append]; exact p.cons _, List.mem_cons_self, .dk ?_ e2 q⟩
    rw [upd_same, e1]
theorem R.putDt {a : Addr} {ks : List (List Key)} {vs : List V} {ds : List D} {m : Nat} {w : V} {d : D} {k : List Key} (nd : ks.Nodup) (h : R K (⟨.ref a, m + 1, .dt ks ds⟩ :: ⟨w, m, d⟩ :: es) Hz H) (ha : H a = some (.dT (ks.zip vs))) (l : ks.length = vs.length) :
    R K (⟨.ref a, m + 1, .dt (putKs k ks) (putKd k d ks ds)⟩ :: es) Hz (upd H a (.dT (L2.putK (ks.zip vs) k w))) := by
  refine R.change2 (fs := [⟨w, m, d⟩]) h fun A C' hA hC n => ?_
  obtain ⟨a', vs', B, e1, rfl, h1, l1, ow⟩ := hA.dt_inv
  cases e1
  rw [ha] at h1
  have ev : vs = vs' := zip_inj l l1 (by have := Option.some.inj h1; injection this)
  subst ev
  cases hC with
  | @cons _ _ C1 C2 hc hr =>
    cases hr
    rw [List.append_nil] at n ⊢
    have n' : a ∉ B ++ C1 := (List.nodup_cons.mp n).1
    obtain ⟨vs', A', L, e1, e2, p, q⟩ := OwnL.putK (k := k) (hc.aside (a := a) (o := .dT (L2.putK (ks.zip vs) k w)) fun z => n' (List.mem_append_right _ z)) nd l (ow.aside fun z => n' (List.mem_append_left _ z))
    refine ⟨a :: A', L, by rw [List.cons_append, List.cons_append]; exact p.cons _, List.mem_cons_self, .dt ?_ e2 q⟩
    rw [upd_same, e1]
end
end Pd
end
section
/-! Pd: statements. -/
namespace Pd
open PySem L2
/-- the slots at U hold what they held -/
def Fix (U : List Nat) (σ σ' : L2.St) : Prop := ∀ i ∈ U, σ'[i]? = σ[i]?
theorem Fix.refl (U : List Nat) (σ : L2.St) : Fix U σ σ := fun _ _ => rfl
theorem Fix.trans {U : List Nat} {σ σ1 σ2 : L2.St} (a : Fix U σ σ1) (b : Fix U σ1 σ2) : Fix U σ σ2 := fun i hi => (b i hi).trans (a i hi)
theorem Fix.set {U : List Nat} {σ : L2.St} {i : Nat} {x : Option V} (h : i ∉ U) : Fix U σ (σ.set i x) := fun j hj => List.getElem?_set_ne fun e => h (by rw [e]; exact hj)
def RetS (K : PySem.W.Frag) (Fr : List Ent) (σ : L2.St) (U : List Nat) (Hz : Hp) (W : WX) (r : RS) (D : Ends) : Prop := match r with
  | .nx ρ' => ∀ σ' H' Hz' es', Ex Hz Hz' → Fix U σ σ' → Slots σ' ρ' es' → R K (es' ++ Fr) Hz' H' → D.nx σ' H'
  | .bk ρ' => ∀ σ' H' Hz' es', Ex Hz Hz' → Fix U σ σ' → Slots σ' ρ' es' → R K (es' ++ Fr) Hz' H' → D.bk σ' H'
  | .ct ρ' => ∀ σ' H' Hz' es', Ex Hz Hz' → Fix U σ σ' → Slots σ' ρ' es' → R K (es' ++ Fr) Hz' H' → D.ct σ' H'
  | .rt x ρ' => x.b = false ∧ ∀ v σ' H' Hz' es', Ex Hz Hz' → Fix U σ σ' → Slots σ' ρ' es' → R K (⟨v, x.q, x.d⟩ :: (es' ++ Fr)) Hz' H' → D.rt v H'
  | .exc C ns xs ρ' => ∀ dx σ' H' Hz' es', Ex Hz Hz' → Fix U σ σ' → ExcAt K Hz' ns xs dx → Slots σ' ρ' es' → R K (es' ++ Fr) Hz' H' → W (.ref (ca K C)) dx σ' H'
  | .stuck => False
def tS (K : PySem.W.Frag) (W : WX) (U : List Nat) (f : SF) : TS := fun D σ H => ∃ ρ es Fr Hz, Slots σ ρ es ∧ R K (es ++ Fr) Hz H ∧ RetS K Fr σ U Hz W (f ρ) D
abbrev SS (X : Cx) (W : WX) (U : List Nat) (st : Stmt) (f : SF) : Prop := PS X st (tS X.K W U f)
abbrev SB (X : Cx) (W : WX) (U : List Nat) (sts : List Stmt) (f : SF) : Prop := PSs X sts (tS X.K W U f)
section
variable {X : Cx} {W : WX} {U : List Nat} {s sa sb sc : Bool} {pos : Pos} {K : PySem.W.Frag} {fa fb fc : EF} {f g : SF} {σ σ' : L2.St} {H Hz Hz' : Hp} {D : Ends} {a b c : Expr} {es : List Ent} {v : V} {x z : RV} {st : Stmt} {rest : List Stmt}
theorem RetS.base {Fr : List Ent} {r : RS} (q : RetS K Fr σ U Hz W r D) (ez : Ex Hz Hz') (fx : Fix U σ σ') : RetS K Fr σ' U Hz' W r D := by
  cases r with
  | stuck => exact q
  | nx ρ => exact fun τ H' Hz2 es' e f S r => q τ H' Hz2 es' (ez.trans e) (fx.trans f) S r
  | bk ρ => exact fun τ H' Hz2 es' e f S r => q τ H' Hz2 es' (ez.trans e) (fx.trans f) S r
  | ct ρ => exact fun τ H' Hz2 es' e f S r => q τ H' Hz2 es' (ez.trans e) (fx.trans f) S r
  | rt x ρ => exact ⟨q.1, fun v τ H' Hz2 es' e f S r => q.2 v τ H' Hz2 es' (ez.trans e) (fx.trans f) S r⟩
  | exc C ns xs ρ => exact fun dx τ H' Hz2 es' e f x S r => q dx τ H' Hz2 es' (ez.trans e) (fx.trans f) x S r
theorem RetS.ends {Fr : List Ent} {r : RS} {D' : Ends} (q : RetS K Fr σ U Hz W r D) (h1 : ∀ σ H, D.nx σ H → D'.nx σ H) (h2 : D'.rt = D.rt) (h3 : D'.bk = D.bk) (h4 : D'.ct = D.ct) : RetS K Fr σ U Hz W r D' := by
  cases r with
  | stuck => exact q
  | nx ρ => exact fun τ H' Hz2 es' e f S r => h1 _ _ (q τ H' Hz2 es' e f S r)
  | bk ρ => exact fun τ H' Hz2 es' e f S r => by rw [h3]; exact q τ H' Hz2 es' e f S r
  | ct ρ => exact fun τ H' Hz2 es' e f S r => by rw [h4]; exact q τ H' Hz2 es' e f S r
  | rt x ρ => exact ⟨q.1, fun v τ H' Hz2 es' e f S r => by rw [h2]; exact q.2 v τ H' Hz2 es' e f S r⟩
  | exc C ns xs ρ => exact q
@[simp] def RS.bind (r : RS) (f : SF) : RS := match r with
  | .nx ρ => f ρ
  | r => r
def sNil : SF := fun ρ => .nx ρ
def sSeq (f g : SF) : SF := fun ρ => (f ρ).bind g
theorem sb_nil : SB X W U [] sNil := pssImp pss_nil fun D σ H ⟨ρ, es, Fr, Hz, S, r, q⟩ => q σ H Hz es (Ex.refl _) (Fix.refl _ _) S r
theorem seq_core (h : tS K W U (sSeq f g) D σ H) : tSeq (tS K W U f) (tS K W U g) D σ H := by
  obtain ⟨ρ, es, Fr, Hz, S, r, q⟩ := h
  refine ⟨ρ, es, Fr, Hz, S, r, ?_⟩
  unfold sSeq at q
  cases e : f ρ with
  | stuck => rw [e] at q; exact q
  | nx ρ1 =>
    rw [e] at q
    exact fun σ1 H1 Hz1 es1 ez fx S1 r1 => ⟨ρ1, es1, Fr, Hz1, S1, r1, q.base ez fx⟩
  | bk ρ1 => rw [e] at q; exact q
  | ct ρ1 => rw [e] at q; exact q
  | rt x ρ1 => rw [e] at q; exact q
  | exc C ns xs ρ1 => rw [e] at q; exact q
theorem sb_cons (h1 : SS X W U st f) (h2 : SB X W U rest g) : SB X W U (st :: rest) (sSeq f g) := pssImp (pss_cons h1 h2) fun D σ H q => seq_core q
theorem sb_one (h1 : SS X W U st f) : SB X W U [st] f := pss_one h1
/-- code that is never come to -/
def sNever : SF := fun _ => .stuck
theorem ss_never : SS X W U st sNever := psImp ps_never fun D σ H ⟨ρ, es, Fr, Hz, S, r, q⟩ => q
theorem sb_never {sts : List Stmt} : SB X W U sts sNever := pssImp pss_never fun D σ H ⟨ρ, es, Fr, Hz, S, r, q⟩ => q
theorem ss_pass : SS X W U (.Pass pos) sNil := psImp ps_pass fun D σ H ⟨ρ, es, Fr, Hz, S, r, q⟩ => q σ H Hz es (Ex.refl _) (Fix.refl _ _) S r
def sBk : SF := fun ρ => .bk ρ
def sCt : SF := fun ρ => .ct ρ
theorem ss_break : SS X W U (.Break pos) sBk := psImp ps_break fun D σ H ⟨ρ, es, Fr, Hz, S, r, q⟩ => q σ H Hz es (Ex.refl _) (Fix.refl _ _) S r
theorem ss_continue : SS X W U (.Continue pos) sCt := psImp ps_continue fun D σ H ⟨ρ, es, Fr, Hz, S, r, q⟩ => q σ H Hz es (Ex.refl _) (Fix.refl _ _) S r
/-- an expression, then a statement's end -/
theorem oneS {k : RV → SF} {Qk : V → Hp → Prop} (h : tS K W U (fun ρ => (fa ρ).bindS k) D σ H)
    (hk : ∀ v x ρ1 es1 Fr Hz1 H1, Slots σ ρ1 es1 → RVok K Hz1 H1 v x (es1 ++ Fr) → RetS K Fr σ U Hz1 W (k x ρ1) D → Qk v H1) : tE K W sa fa σ H Qk := by
  obtain ⟨ρ, es, Fr, Hz, S, r, q⟩ := h
  refine ⟨ρ, es, Fr, Hz, S, r, ?_⟩
  dsimp only at q
  cases e : fa ρ with
  | stuck => rw [e] at q; exact q
  | exc C ns xs ρ' =>
    rw [e] at q
    exact fun dx H' Hz' es' ez x S r => q dx σ H' Hz' es' ez (Fix.refl _ _) x S r
  | ok x ρ1 =>
    rw [e] at q
    exact fun v H1 Hz1 es1 ez k1 S1 o1 => hk v x ρ1 es1 Fr Hz1 H1 S1 o1 (q.base ez (Fix.refl _ _))
/-- e -/
def sEx (fa : EF) : SF := fun ρ => (fa ρ).bindS fun _ ρ1 => .nx ρ1
theorem ss_expr (ha : SE X W s a fa) (hs : swapsWith a none pos.line X.env = pure false := by rfl) : SS X W U (.Expr a pos) (sEx fa) := by
  refine psImp (ps_expr ha hs) fun D σ H q => ?_
  exact oneS q fun v x ρ1 es1 Fr Hz1 H1 S o q => q σ H1 Hz1 es1 (Ex.refl _) (Fix.refl _ _) S o.rest
/-- return e -/
def sRt (fa : EF) : SF := fun ρ => (fa ρ).bindS fun x ρ1 => .rt x ρ1
theorem ss_ret (ha : SE X W s a fa) : SS X W U (.Return (some a) pos) (sRt fa) := by
  refine psImp (ps_ret ha) fun D σ H q => ?_
  exact oneS q fun v x ρ1 es1 Fr Hz1 H1 S o q => q.2 v σ H1 Hz1 es1 (Ex.refl _) (Fix.refl _ _) S (o.own q.1)
def sRtN : SF := fun ρ => .rt (pureV .non) ρ
theorem ss_retN : SS X W U (.Return none pos) sRtN := psImp ps_retN fun D σ H ⟨ρ, es, Fr, Hz, S, r, q⟩ => q.2 .non σ H Hz es (Ex.refl _) (Fix.refl _ _) S (r.put (.inl rfl) .non)
/-- if -/
def sIf (fc : EF) (f g : SF) : SF := fun ρ => (fc ρ).bindS fun x ρ1 => match x.d with
  | .bl true => f ρ1
  | .bl false => g ρ1
  | _ => .stuck
theorem ss_if {A B : List Stmt} (hc : ST X W s c fc) (ha : SB X W U A f) (hb : SB X W U B g) : SS X W U (.If c A B pos) (sIf fc f g) := by
  refine psImp (ps_if hc ha hb) fun D σ H q => ?_
  refine oneS q fun v x ρ1 es1 Fr Hz1 H1 S o q => ?_
  split at q
  · rename_i e
    exact ⟨true, o.bl e, iteT ⟨ρ1, es1, Fr, Hz1, S, o.rest, q⟩⟩
  · rename_i e
    exact ⟨false, o.bl e, iteF ⟨ρ1, es1, Fr, Hz1, S, o.rest, q⟩⟩
  · exact q.elim
/-- x = e -/
def sAs (i : Nat) (fa : EF) : SF := fun ρ => (fa ρ).bindS fun x ρ1 => if x.b = false ∧ i < ρ1.length then .nx (ρ1.set i (some (x.q, x.d))) else .stuck
theorem store_core {i : Nat} {Fr : List Ent} {ρ1 : Vr} {es1 : List Ent} (S : Slots σ ρ1 es1) (o : RVok K Hz H v x (es1 ++ Fr)) (hb : x.b = false) (hi : i < ρ1.length) :
    ∃ es', Slots (σ.set i (some v)) (ρ1.set i (some (x.q, x.d))) es' ∧ R K (es' ++ Fr) Hz H := by
  obtain ⟨es2, dr, es', h1, h2, h3⟩ := S.store (v := v) (m := x.q) (d := x.d) hi
  refine ⟨es', h1, ?_⟩
  have r1 := (o.own hb).perm ((h3.append_right Fr).cons ⟨v, x.q, x.d⟩)
  rw [List.append_assoc] at r1
  have r2 : R K (dr ++ (⟨v, x.q, x.d⟩ :: (es2 ++ Fr))) Hz H := r1.perm List.perm_middle.symm
  exact r2.right.perm (h2.append_right Fr).symm
theorem asg_core {i : Nat} (hu : i ∉ U) (q : tS K W U (sAs i fa) D σ H) : tAsg (tE K W sa fa) (gName i) D σ H := by
  refine oneS q fun v x ρ1 es1 Fr Hz1 H1 S o q => ?_
  split at q
  · rename_i c
    obtain ⟨es', S', r'⟩ := store_core S o c.1 c.2
    exact q _ H1 Hz1 es' (Ex.refl _) (Fix.set hu) S' r'
  · exact q.elim
theorem ss_set (i : Nat) {x : Str} {p : Pos} (ha : SE X W s a fa) (hu : i ∉ U := by decide) (hN : X.N.Nodup) (hi : X.N[i]? = some x := by rfl) (hx : Loc X.env.scope x := by first | exact Or.inl rfl | exact Or.inr rfl) (hs : swapsWith a (some (.Name x p)) pos.line X.env = pure false := by rfl) (hf : X.fn x = true ∨ X.env.scope.names.lookup x = some .local := by first | exact .inl rfl | exact .inr rfl) :
    SS X W U (.Assign [.Name x p] a pos) (sAs i fa) := psImp (ps_set hN hi hx ha hs hf) fun D σ H q => asg_core hu q
/-- a, b = e -/
def setAll : List Nat → List Pd.D → Vr → Option Vr
  | [], [], ρ => some ρ
  | i :: is, d :: ds, ρ => if i < ρ.length then setAll is ds (ρ.set i (some (0, d))) else none
  | _, _, _ => none
def sTp (is : List Nat) (fa : EF) : SF := fun ρ => (fa ρ).bindS fun x ρ1 => match x.d with
  | .tup ds => match setAll is ds ρ1 with
    | some ρ2 => .nx ρ2
    | none => .stuck
  | _ => .stuck
def gNames : List Nat → TGs
  | [] => gNil
  | i :: is => gCons (gName i) (gNames is)
theorem names_core {Q : L2.St → Hp → Prop} : ∀ {is : List Nat} {vs : List V} {ds : List Pd.D} {ρ ρ2 : Vr} {es : List Ent} {Fr : List Ent} {σ : L2.St}, (∀ i ∈ is, i ∉ U) → RpL K Hz vs ds → setAll is ds ρ = some ρ2 → Slots σ ρ es → R K (es ++ Fr) Hz H →
    (∀ σ' es', Fix U σ σ' → Slots σ' ρ2 es' → R K (es' ++ Fr) Hz H → Q σ' H) → gNames is vs σ H Q
  | [], [], [], ρ, _, es, Fr, σ, _, _, e, S, r, h => by
    cases e
    exact ⟨rfl, h σ es (Fix.refl _ _) S r⟩
  | i :: is, v :: vs, d :: ds, ρ, ρ2, es, Fr, σ, hu, .cons hd l, e, S, r, h => by
    unfold setAll at e
    split at e
    · rename_i hi
      obtain ⟨es', S', r'⟩ := store_core (x := pureV d) S (RVok.pure hd r) rfl hi
      exact ⟨v, vs, rfl, names_core (fun j hj => hu j (List.mem_cons_of_mem _ hj)) l e S' r' fun σ' es2 fx S2 r2 => h σ' es2 ((Fix.set (hu i List.mem_cons_self)).trans fx) S2 r2⟩
    · cases e
  | [], _ :: _, _ :: _, _, _, _, _, _, _, _, e, _, _, _ => by simp [setAll] at e
  | _ :: _, [], [], _, _, _, _, _, _, _, e, _, _, _ => by simp [setAll] at e
  | [], [], _ :: _, _, _, _, _, _, _, l, _, _, _, _ => by cases l
  | [], _ :: _, [], _, _, _, _, _, _, l, _, _, _, _ => by cases l
  | _ :: _, [], _ :: _, _, _, _, _, _, _, l, _, _, _, _ => by cases l
  | _ :: _, _ :: _, [], _, _, _, _, _, _, l, _, _, _, _ => by cases l
theorem setAll_len : ∀ {is : List Nat} {ds : List Pd.D} {ρ ρ2 : Vr}, setAll is ds ρ = some ρ2 → is.length = ds.length
  | [], [], _, _, _ => rfl
  | i :: is, d :: ds, ρ, ρ2, e => by
    unfold setAll at e
    split at e
    · rw [List.length_cons, List.length_cons, setAll_len e]
    · cases e
  | [], _ :: _, _, _, e => by simp [setAll] at e
  | _ :: _, [], _, _, e => by simp [setAll] at e
theorem ss_tup {tgs : List Expr} {k : Nat} {p : Pos} (is : List Nat) (hc : X.calm = true) (ha : SE X W s a fa) (hg : PGs X tgs (gNames is)) (hu : ∀ i ∈ is, i ∉ U := by decide) (hn : (assignEach tgs X.env).length = is.length := by rfl) (hst : (assignEach tgs X.env).findIdx? (·.1) = none := by rfl)
    (hs : swapsWithSole [.Tuple tgs k p] a pos.line X.env = pure false := by rfl) (hw : swappedStores [.Tuple tgs k p] a X.env = pure none := by rfl) (h1 : (assignEach [.Tuple tgs k p] X.env).map (·.2) = [assign (.Tuple tgs k p) X.env] := by rfl) : SS X W U (.Assign [.Tuple tgs k p] a pos) (sTp is fa) := by
  refine psImp (ps_asg ha (pg_tup hc hg hn hst) hs hw h1) fun D σ H q => ?_
  refine oneS q fun v x ρ1 es1 Fr Hz1 H1 S o q => ?_
  split at q
  · rename_i ds e
    split at q
    · rename_i ρ2 e2
      obtain ⟨a, vs, rfl, h1, l⟩ := o.view.tup e
      refine ⟨a, vs, rfl, .of (o.rest.ex _ _ h1), by rw [l.length, setAll_len e2], names_core hu l e2 S o.rest fun σ' es' fx S' r' => q σ' H1 Hz1 es' (Ex.refl _) fx S' r'⟩
    · exact q.elim
  · exact q.elim
/-- o.f = e, o a variable -/
def sFl (ft : Nm → List Nm) (i : Nat) (n : Nm) (fa : EF) : SF := fun ρ => (fa ρ).bindS fun y ρ1 => if y.b = true then .stuck else match ρ1[i]? with
  | some (some (m + 1, .ins C ns ds)) => if n ∈ ft C ∧ ns.length < 100 ∧ (m ≤ y.q ∨ immut y.d = true) then .nx (ρ1.set i (some (m + 1, .ins C (putNs n ns) (putDs n y.d ns ds)))) else .stuck
  | _ => .stuck
theorem fld_core {ft : Nm → List Nm} (F : FldOk K ft) {i : Nat} {n : Nm} {C : Nm} {ns : List Nm} {ds : List Pd.D} {m : Nat} {Fr : List Ent} {ρ1 : Vr} {es1 : List Ent} {w : V} {y : RV} (S : Slots σ ρ1 es1) (r : R K (⟨w, y.q, y.d⟩ :: (es1 ++ Fr)) Hz H) (e : ρ1[i]? = some (some (m + 1, .ins C ns ds)))
    (c : n ∈ ft C ∧ ns.length < 100 ∧ (m ≤ y.q ∨ immut y.d = true)) : ∃ a dx vs Hz', σ[i]? = some (some (.ref a)) ∧ H a = some (.ins (ca K C) dx ((ns.map Nm.str).zip vs)) ∧ Cls K (ca K C) ∧ NoAttr K (ca K C) n.str ∧ ((ns.map Nm.str).zip vs).length < 1000 ∧ Ex Hz Hz' ∧
      ∃ es', Slots σ (ρ1.set i (some (m + 1, .ins C (putNs n ns) (putDs n y.d ns ds)))) es' ∧ R K (es' ++ Fr) Hz' (upd H a (.ins (ca K C) dx (putF n.str w ((ns.map Nm.str).zip vs)))) := by
  obtain ⟨c1, c2, c3⟩ := c
  obtain ⟨v, es2, h1, h2, h3⟩ := S.take e
  obtain ⟨Hz', ez, r1⟩ := r.weaken m c3
  have r2 : R K (⟨v, m + 1, .ins C ns ds⟩ :: ⟨w, m, y.d⟩ :: (es2 ++ Fr)) Hz' H := (r1.perm ((mid h2).cons _)).perm (List.Perm.swap _ _ _)
  obtain ⟨A, hA⟩ := r2.head
  obtain ⟨a, dx, vs, B, rfl, _, ha, l, _⟩ := hA.ins_inv
  obtain ⟨k1, k2⟩ := F.cls C n c1
  have hi : i < ρ1.length := (List.getElem?_eq_some_iff.mp e).1
  obtain ⟨es3, S3, p3⟩ := h3.put (v := .ref a) (m := m + 1) (d := .ins C (putNs n ns) (putDs n y.d ns ds)) (by rw [List.getElem?_set_self hi]) h1
  rw [List.set_set] at S3
  refine ⟨a, dx, vs, Hz', h1, ha, k1, k2, ?_, ez, es3, S3, (R.putN (F.inj n) r2 ha l).perm (mid p3).symm⟩
  rw [List.length_zip, List.length_map]; omega
theorem ss_fld {ft : Nm → List Nm} (F : FldOk X.K ft) (i : Nat) (n : Nm) {x : Str} {p p' : Pos} (ha : SE X W s a fa) (hN : X.N[i]? = some x := by rfl) (hv : Vis X.env.scope x := by first | exact Or.inl rfl | exact Or.inr (Or.inl rfl) | exact Or.inr (Or.inr rfl)) (hd : (x == ("__debug__" : Str)) = false := by decide)
    (hcd : (x == ("__classdict__" : Str)) = false := by decide) (hs : swapsWith a (some (.Attribute (.Name x p) n.str p')) pos.line X.env = pure false := by rfl) : SS X W U (.Assign [.Attribute (.Name x p) n.str p'] a pos) (sFl ft i n fa) := by
  refine psImp (ps_fld (pv i hN hv hd hcd) ha hs) fun D σ H q => ?_
  refine oneS q fun w y ρ1 es1 Fr Hz1 H1 S o q => ?_
  split at q
  · exact q.elim
  · rename_i hb
    split at q
    · rename_i m C ns ds e
      split at q
      · rename_i c
        obtain ⟨a, dx, vs, Hz', h1, ha, k1, k2, k3, ez, es', S', r'⟩ := fld_core F S (o.own (by simpa using hb)) e c
        exact ⟨_, h1, a, _, dx, _, rfl, ha, k1, k2, k3, q σ _ Hz' es' ez (Fix.refl _ _) S' r'⟩
      · exact q.elim
    · exact q.elim
end
end Pd
end
section
/-! Pd: while, for, list comprehensions. -/
namespace Pd
open PySem L2
inductive RI where
  | ok (items : List D) (hold : RV) (ρ : Vr)
  | exc (C : Nm) (ns : List Nm) (xs : List D) (ρ : Vr)
  | stuck
abbrev IF := Vr → RI
/-- J walks the items, as long as the thing held lies there -/
def Walks (K : PySem.W.Frag) (J : It) (hv : V) (hold : RV) (items : List D) : Prop := ∀ (i : Nat) (es : List Ent) (Hz H : Hp), R K (⟨hv, hold.q, hold.d⟩ :: es) Hz H →
  (∀ d, items[i]? = some d → J.go i H ∧ ∀ x H', J.yld i H x H' → ∃ Hz', Ex Hz Hz' ∧ Ex H H' ∧ Rp K Hz' x d ∧ R K (⟨hv, hold.q, hold.d⟩ :: es) Hz' H') ∧ (items.length ≤ i → J.stop i H)
def RetI (K : PySem.W.Frag) (Fr : List Ent) (σ : L2.St) (Hz H : Hp) (s : Bool) (W : WX) (r : RI) (Q : It → Hp → Prop) : Prop := match r with
  | .ok items hold ρ' => ∀ J hv H' Hz' es', Ex Hz Hz' → (s = true → Ex H H') → Slots σ ρ' es' → R K (⟨hv, hold.q, hold.d⟩ :: (es' ++ Fr)) Hz' H' → Walks K J hv hold items → Q J H'
  | .exc C ns xs ρ' => ∀ dx H' Hz' es', Ex Hz Hz' → ExcAt K Hz' ns xs dx → Slots σ ρ' es' → R K (es' ++ Fr) Hz' H' → W (.ref (ca K C)) dx σ H'
  | .stuck => False
def tI (K : PySem.W.Frag) (W : WX) (s : Bool) (fi : IF) : TI := fun σ H Q => ∃ ρ es Fr Hz, Slots σ ρ es ∧ R K (es ++ Fr) Hz H ∧ RetI K Fr σ Hz H s W (fi ρ) Q
abbrev SI (X : Cx) (W : WX) (s : Bool) (tg iter : Expr) (fi : IF) : Prop := PI X tg iter (tI X.K W s fi)
theorem piImp {X : Cx} {tg e : Expr} {t t' : TI} (h : PI X tg e t) (i : ∀ σ H Q, t' σ H Q → t σ H Q) : PI X tg e t' := ⟨fun pins s σ H Q I q => h.run pins s σ H Q I (i σ H Q q)⟩
@[simp] def RE.bindI (r : RE) (f : RV → IF) : RI := match r with
  | .ok x ρ => f x ρ
  | .exc C ns xs ρ => .exc C ns xs ρ
  | .stuck => .stuck
@[simp] def RI.bindE (r : RI) (f : List D → RV → EF) : RE := match r with
  | .ok xs h ρ => f xs h ρ
  | .exc C ns xs ρ => .exc C ns xs ρ
  | .stuck => .stuck
@[simp] def RI.bindS (r : RI) (f : List D → RV → SF) : RS := match r with
  | .ok xs h ρ => f xs h ρ
  | .exc C ns xs ρ => .exc C ns xs ρ
  | .stuck => .stuck
section
variable {X : Cx} {W : WX} {U : List Nat} {s sa sb sc : Bool} {pos : Pos} {K : PySem.W.Frag} {fa fb fc : EF} {f g : SF} {σ σ' : L2.St} {H Hz Hz' : Hp} {Z : Ends} {a b c tg : Expr} {es : List Ent} {v : V} {x z : RV} {st : Stmt} {rest : List Stmt}
theorem oneI {k : RV → IF} {Qi : It → Hp → Prop} {Qk : V → Hp → Prop} (h : tI K W s (fun ρ => (fa ρ).bindI k) σ H Qi) (hs : s = true → sa = true)
    (hk : ∀ v x ρ1 es1 Fr Hz1 H1, Slots σ ρ1 es1 → RVok K Hz1 H1 v x (es1 ++ Fr) → RetI K Fr σ Hz1 H1 s W (k x ρ1) Qi → Qk v H1) : tE K W sa fa σ H Qk := by
  obtain ⟨ρ, es, Fr, Hz, S, r, q⟩ := h
  refine ⟨ρ, es, Fr, Hz, S, r, ?_⟩
  dsimp only at q
  cases e : fa ρ with
  | stuck => rw [e] at q; exact q
  | exc C ns xs ρ' => rw [e] at q; exact q
  | ok x ρ1 =>
    rw [e] at q
    refine fun v H1 Hz1 es1 ez k1 S1 o1 => hk v x ρ1 es1 Fr Hz1 H1 S1 o1 ?_
    dsimp only [RE.bindI] at q
    revert q
    generalize k x ρ1 = rr
    intro q
    cases rr with
    | stuck => exact q
    | exc C ns xs ρ' => exact fun dx H' Hz' es' ez' => q dx H' Hz' es' (ez.trans ez')
    | ok items hold ρ' => exact fun J hv H' Hz' es' ez' kk => q J hv H' Hz' es' (ez.trans ez') fun z => (k1 (hs z)).trans (kk z)
/-! ### what is walked -/
/-- a list, that no one changes meanwhile -/
def iL (fa : EF) : IF := fun ρ => (fa ρ).bindI fun x ρ1 => if x.b = true then .stuck else match x.d with
  | .lst ds => if x.q ≤ 1 then .ok ds x ρ1 else .stuck
  | .frl ds => .ok ds x ρ1
  | _ => .stuck
theorem walks_lst {a : Addr} {ds : List D} {x : RV} (e : x.d = .lst ds) (hq : x.q ≤ 1) : Walks K (Itl K a) (.ref a) x ds := by
  intro i es Hz H r
  have hv : View K Hz H (.ref a) x := r.head
  obtain ⟨a', vs, A, e1, h1, ow⟩ := hv.lst r.ex e
  cases e1
  refine ⟨fun d hd => ?_, fun hl => ⟨vs, .of h1, by rw [ow.length]; exact hl⟩⟩
  obtain ⟨u, hu, hr⟩ := (ow.one hq).get hd
  refine ⟨⟨vs, u, .of h1, hu⟩, fun y H' hy => ?_⟩
  obtain ⟨e2, hy⟩ := hy
  subst e2
  have e3 := hy vs (.of h1)
  rw [hu] at e3; cases e3
  exact ⟨Hz, Ex.refl _, Ex.refl _, hr, r⟩
theorem walks_frl {a : Addr} {ds : List D} {vs : List V} {x : RV} (e : x.d = .frl ds) : Walks K (Itl K a) (.ref a) x ds := by
  intro i es Hz H r
  have hv : View K Hz H (.ref a) x := r.head
  obtain ⟨a', vs, e1, h1, l⟩ := hv.frl e
  cases e1
  refine ⟨fun d hd => ?_, fun hl => ⟨vs, r.ex.sql h1, by rw [l.length]; exact hl⟩⟩
  obtain ⟨u, hu, hr⟩ := l.get hd
  refine ⟨⟨vs, u, r.ex.sql h1, hu⟩, fun y H' hy => ?_⟩
  obtain ⟨e2, hy⟩ := hy
  subst e2
  have e3 := hy vs (r.ex.sql h1)
  rw [hu] at e3; cases e3
  exact ⟨Hz, Ex.refl _, Ex.refl _, hr, r⟩
theorem si_list (ha : SE X W s a fa) : SI X W s tg a (iL fa) := by
  refine piImp (pi_list ha) fun σ H Q q => ?_
  refine oneI q id fun v x ρ1 es1 Fr Hz1 H1 S o q => ?_
  split at q
  · exact q.elim
  · rename_i hb
    have o' := o.own (by simpa using hb)
    split at q
    · rename_i ds e
      split at q
      · rename_i c
        obtain ⟨a, vs, A, rfl, h1, ow⟩ := o.view.lst o.rest.ex e
        exact ⟨a, rfl, ⟨vs, .of h1⟩, q _ _ H1 Hz1 es1 (Ex.refl _) (fun _ => Ex.refl _) S o' (walks_lst e c)⟩
      · exact q.elim
    · rename_i ds e
      obtain ⟨a, vs, rfl, h1, l⟩ := o.view.frl e
      exact ⟨a, rfl, ⟨vs, o.rest.ex.sql h1⟩, q _ _ H1 Hz1 es1 (Ex.refl _) (fun _ => Ex.refl _) S o' (walks_frl (vs := vs) e)⟩
    · exact q.elim
/-- a tuple -/
def iT (fa : EF) : IF := fun ρ => (fa ρ).bindI fun x ρ1 => match x.d with
  | .tup ds => .ok ds (pureV x.d) ρ1
  | _ => .stuck
theorem walks_tup {a : Addr} {ds : List D} {x : RV} (e : x.d = .tup ds) : Walks K (Itt K a) (.ref a) x ds := by
  intro i es Hz H r
  have hv : View K Hz H (.ref a) x := r.head
  obtain ⟨a', vs, e1, h1, l⟩ := hv.tup e
  cases e1
  have h2 := r.ex _ _ h1
  refine ⟨fun d hd => ?_, fun hl => ⟨vs, .of h2, by rw [l.length]; exact hl⟩⟩
  obtain ⟨u, hu, hr⟩ := l.get hd
  refine ⟨⟨vs, u, .of h2, hu⟩, fun y H' hy => ?_⟩
  obtain ⟨e2, hy⟩ := hy
  subst e2
  have e3 := hy vs (.of h2)
  rw [hu] at e3; cases e3
  exact ⟨Hz, Ex.refl _, Ex.refl _, hr, r⟩
theorem si_tup (ha : SE X W s a fa) : SI X W s tg a (iT fa) := by
  refine piImp (pi_tup ha) fun σ H Q q => ?_
  refine oneI q id fun v x ρ1 es1 Fr Hz1 H1 S o q => ?_
  split at q
  · rename_i ds e
    have rz := o.view.imm (by rw [e]; rfl)
    obtain ⟨a, vs, rfl, h1, l⟩ := o.view.tup e
    exact ⟨a, rfl, ⟨vs, .of (o.rest.ex _ _ h1)⟩, q _ (.ref a) H1 Hz1 es1 (Ex.refl _) (fun _ => Ex.refl _) S (o.rest.put (.inl rfl) rz) (walks_tup (x := pureV x.d) e)⟩
  · exact q.elim
/-- range -/
def rng (lo : Int) (n : Nat) : List D := (List.range n).map fun (i : Nat) => .int (lo + (i : Int))
theorem rng_get {lo : Int} {n i : Nat} {d : D} (h : (rng lo n)[i]? = some d) : i < n ∧ d = .int (lo + i) := by
  unfold rng at h
  rw [List.getElem?_map] at h
  obtain ⟨j, h1, h2⟩ := Option.map_eq_some_iff.mp h
  obtain ⟨h3, h4⟩ := List.getElem?_eq_some_iff.mp h1
  rw [List.length_range] at h3
  rw [List.getElem_range] at h4
  exact ⟨h3, by rw [← h2, ← h4]⟩
theorem walks_rng {lo : Int} {n : Nat} : Walks K (Itr lo n) .non (pureV .non) (rng lo n) := by
  intro i es Hz H r
  refine ⟨fun d hd => ?_, fun hl => ?_⟩
  · obtain ⟨h1, rfl⟩ := rng_get hd
    refine ⟨h1, fun y H' hy => ?_⟩
    obtain ⟨e1, e2⟩ := hy
    subst e1 e2
    exact ⟨Hz, Ex.refl _, Ex.refl _, .int _, r⟩
  · show n ≤ i
    unfold rng at hl
    rw [List.length_map, List.length_range] at hl
    exact hl
def RB (i : Int) : Prop := i.natAbs ≤ 1000000000000000000
instance (i : Int) : Decidable (RB i) := inferInstanceAs (Decidable (_ ≤ _))
def iR1 (fa : EF) : IF := fun ρ => (fa ρ).bindI fun x ρ1 => match x.d with
  | .int j => if RB j then .ok (rng 0 j.toNat) (pureV .non) ρ1 else .stuck
  | _ => .stuck
def iR2 (fa fb : EF) : IF := fun ρ => (fa ρ).bindI fun x ρ1 => (fb ρ1).bindI fun y ρ2 => match x.d, y.d with
  | .int i, .int j => if RB i ∧ RB j then .ok (rng i (j - i).toNat) (pureV .non) ρ2 else .stuck
  | _, _ => .stuck
theorem two62 : (2 : Int) ^ 62 = 4611686018427387904 := by decide
theorem si_range1 {p : Pos} (ha : SE X W s a fa) (hm : X.mg "range" = none) (hg : Gl X "range" := by rfl) (h1 : starEach [a] X.env = (false, eval a X.env) :: starEach [] X.env := by rfl) (hs : starEach [a] X.env = [(false, eval a X.env)] := by rfl) : SI X W s tg (.Call (.Name "range" p) [a] [] pos) (iR1 fa) := by
  refine piImp (pi_range1 hg hm (pa_cons ha pa_nil h1) hs) fun σ H Q q => ?_
  refine oneI q id fun v x ρ1 es1 Fr Hz1 H1 S o q => ?_
  split at q
  · rename_i j e
    split at q
    · rename_i c
      refine ⟨j, by rw [o.view.int e], by rw [two62]; unfold RB at c; omega, by rw [two62]; unfold RB at c; omega, ?_⟩
      exact q _ .non H1 Hz1 es1 (Ex.refl _) (fun _ => Ex.refl _) S (o.rest.put (.inl rfl) .non) walks_rng
    · exact q.elim
  · exact q.elim
theorem si_range2 {p : Pos} (ha : SE X W sa a fa) (hb : SE X W sb b fb) (hm : X.mg "range" = none) (hg : Gl X "range" := by rfl) (h1 : starEach [a, b] X.env = (false, eval a X.env) :: starEach [b] X.env := by rfl) (h2 : starEach [b] X.env = (false, eval b X.env) :: starEach [] X.env := by rfl)
    (hs1 : starEach [a, b] X.env = [(false, eval a X.env), (false, eval b X.env)] := by rfl) (hs2 : starEach [b] X.env = [(false, eval b X.env)] := by rfl) (hs : s = true → sa = true ∧ sb = true := by first | exact fun _ => ⟨rfl, rfl⟩ | (intro z; cases z)) : SI X W s tg (.Call (.Name "range" p) [a, b] [] pos) (iR2 fa fb) := by
  refine piImp (pi_range2 hg hm (pa_cons ha (pa_cons hb pa_nil h2) h1) hs1 hs2) fun σ H Q q => ?_
  refine oneI q (fun z => (hs z).1) fun v x ρ1 es1 Fr Hz1 H1 S o q => ?_
  have q' : tI X.K W s (fun ρ => (fb ρ).bindI fun y ρ2 => match x.d, y.d with
      | .int i, .int j => if RB i ∧ RB j then .ok (rng i (j - i).toNat) (pureV .non) ρ2 else .stuck
      | _, _ => .stuck) σ H1 Q := ⟨ρ1, es1, Fr, Hz1, S, o.rest, q⟩
  refine oneI q' (fun z => (hs z).2) fun w y ρ2 es2 Fr2 Hz2 H2 S2 o2 q2 => ?_
  split at q2
  · rename_i i j e1 e2
    split at q2
    · rename_i c
      refine ⟨i, j, by rw [o.view.int e1, o2.view.int e2], ?_, ?_⟩
      · rw [two62]; unfold RB at c; omega
      · exact q2 _ .non H2 Hz2 es2 (Ex.refl _) (fun _ => Ex.refl _) S2 (o2.rest.put (.inl rfl) .non) walks_rng
    · exact q2.elim
  · exact q2.elim

/-! ### targets -/
inductive Tg where
  | nm (i : Nat)
  | tp (is : List Nat)
def Tg.all : Tg → List Nat
  | .nm i => [i]
  | .tp is => is
def bindT : Tg → D → Vr → Option Vr
  | .nm i, d, ρ => if i < ρ.length then some (ρ.set i (some (0, d))) else none
  | .tp is, .tup ds, ρ => setAll is ds ρ
  | .tp _, _, _ => none
def gT (K : PySem.W.Frag) : Tg → TG
  | .nm i => gName i
  | .tp is => gTup K is.length (gNames is)
theorem bind_core {t : Tg} {d : D} {ρ ρ2 : Vr} {es Fr : List Ent} {Q : L2.St → Hp → Prop} (hu : ∀ i ∈ t.all, i ∉ U) (hd : Rp K Hz v d) (e : bindT t d ρ = some ρ2) (S : Slots σ ρ es) (r : R K (es ++ Fr) Hz H)
    (h : ∀ σ' es', Fix U σ σ' → Slots σ' ρ2 es' → R K (es' ++ Fr) Hz H → Q σ' H) : gT K t v σ H Q := by
  cases t with
  | nm i =>
    have e' : (if i < ρ.length then some (ρ.set i (some (0, d))) else none) = some ρ2 := e
    split at e'
    · rename_i hi
      cases e'
      obtain ⟨es', S', r'⟩ := store_core (x := pureV d) S (RVok.pure hd r) rfl hi
      exact h _ es' (Fix.set (hu i (by simp [Tg.all]))) S' r'
    · cases e'
  | tp is =>
    cases hd with
    | tup h1 l => exact ⟨_, _, rfl, .of (r.ex _ _ h1), by rw [l.length, setAll_len (show setAll is _ ρ = some ρ2 from e)], names_core hu l e S r h⟩
    | _ => cases e

/-! ### for -/
def forL (t : Tg) (f : SF) : List D → SF
  | [], ρ => .nx ρ
  | d :: ds, ρ => match bindT t d ρ with
    | some ρ1 => match f ρ1 with
      | .nx ρ2 => forL t f ds ρ2
      | .ct ρ2 => forL t f ds ρ2
      | .bk ρ2 => .nx ρ2
      | r => r
    | none => .stuck
def sFor (t : Tg) (fi : IF) (f : SF) : SF := fun ρ => (fi ρ).bindS fun items _ ρ1 => forL t f items ρ1
theorem R.swap3 {e : Ent} {es Fr : List Ent} (r : R K (e :: (es ++ Fr)) Hz H) : R K (es ++ (e :: Fr)) Hz H := r.perm List.perm_middle.symm
theorem R.swap4 {e : Ent} {es Fr : List Ent} (r : R K (es ++ (e :: Fr)) Hz H) : R K (e :: (es ++ Fr)) Hz H := r.perm List.perm_middle
theorem ss_for {body : List Stmt} {t : Tg} {fi : IF} {iter : Expr} (hp : PassesOwn (model X.prog X.w) X.A X.env X.xe) (hc : X.calm = true) (hi : SI X W s tg iter fi) (hg : PG X tg (gT X.K t)) (hb : SB X W U body f) (hu : ∀ i ∈ t.all, i ∉ U := by decide)
    (hs : ∀ x, foldedSetIterable iter X.env x = pure x := by intro _; rfl) : SS X W U (.For tg iter body [] pos) (sFor t fi f) := by
  refine psImp (ps_for hp hc hi hg hb hs) fun Z σ H q => ?_
  obtain ⟨ρ, es, Fr, Hz, S, r, q⟩ := q
  refine ⟨ρ, es, Fr, Hz, S, r, ?_⟩
  unfold sFor at q
  cases e : fi ρ with
  | stuck => rw [e] at q; exact q
  | exc C ns xs ρ' =>
    rw [e] at q
    exact fun dx H' Hz' es' ez x S r => q dx σ H' Hz' es' ez (Fix.refl _ _) x S r
  | ok items hold ρ1 =>
    rw [e] at q
    dsimp only [RI.bindS] at q
    intro J hv H1 Hz1 es1 ez k1 S1 r1 wk
    refine ⟨fun i m τ H' => m = items.length - i ∧ i ≤ items.length ∧ ∃ ρi esi Hzi, Fix U σ τ ∧ Slots τ ρi esi ∧ R X.K (⟨hv, hold.q, hold.d⟩ :: (esi ++ Fr)) Hzi H' ∧ RetS X.K Fr τ U Hzi W (forL t f (items.drop i) ρi) Z,
      ⟨items.length, by simp, Nat.zero_le _, ρ1, es1, Hz1, Fix.refl _ _, S1, r1, q.base ez (Fix.refl _ _)⟩, ?_⟩
    rintro i m τ H' ⟨rfl, hi, ρi, esi, Hzi, fx, Si, ri, qi⟩
    obtain ⟨w1, w2⟩ := wk i _ Hzi H' ri
    by_cases hlt : i < items.length
    · obtain ⟨d, hd⟩ : ∃ d, items[i]? = some d := ⟨_, List.getElem?_eq_getElem hlt⟩
      obtain ⟨go, yl⟩ := w1 d hd
      have hdrop : items.drop i = d :: items.drop (i + 1) := by
        have := List.getElem?_eq_some_iff.mp hd
        obtain ⟨h1, h2⟩ := this
        rw [List.drop_eq_getElem_cons h1, h2]
      rw [hdrop] at qi
      unfold forL at qi
      refine .inr ⟨go, fun τ' H'' => ∃ ρi esi Hzi, Fix U σ τ' ∧ Slots τ' ρi esi ∧ R X.K (⟨hv, hold.q, hold.d⟩ :: (esi ++ Fr)) Hzi H'' ∧ RetS X.K Fr τ' U Hzi W (forL t f (items.drop (i + 1)) ρi) Z,
        fun τ' H'' h => ⟨items.length - (i + 1), by omega, rfl, hlt, h⟩, fun x H2 hy => ?_⟩
      obtain ⟨Hz2, e1, e2, hx, r2⟩ := yl x H2 hy
      have qi' := qi.base e1 (Fix.refl _ _)
      cases eb : bindT t d ρi with
      | none => rw [eb] at qi'; exact qi'.elim
      | some ρ2 =>
        rw [eb] at qi'
        dsimp only at qi'
        refine bind_core (K := X.K) (Fr := ⟨hv, hold.q, hold.d⟩ :: Fr) hu hx eb Si r2.swap3 fun τ2 es2 fx2 S2 r3 => ?_
        refine ⟨ρ2, es2, ⟨hv, hold.q, hold.d⟩ :: Fr, Hz2, S2, r3, ?_⟩
        have q3 := qi'.base (Ex.refl _) fx2
        have fxx := fx.trans fx2
        cases ef : f ρ2 with
        | stuck => rw [ef] at q3; exact q3
        | nx ρ3 =>
          rw [ef] at q3
          exact fun τ3 H3 Hz3 es3 e3 fx3 S3 r4 => ⟨ρ3, es3, Hz3, fxx.trans fx3, S3, r4.swap4, q3.base e3 fx3⟩
        | ct ρ3 =>
          rw [ef] at q3
          exact fun τ3 H3 Hz3 es3 e3 fx3 S3 r4 => ⟨ρ3, es3, Hz3, fxx.trans fx3, S3, r4.swap4, q3.base e3 fx3⟩
        | bk ρ3 =>
          rw [ef] at q3
          exact fun τ3 H3 Hz3 es3 e3 fx3 S3 r4 => q3 τ3 H3 Hz3 es3 e3 fx3 S3 r4.swap4.tail
        | rt y ρ3 =>
          rw [ef] at q3
          exact ⟨q3.1, fun v τ3 H3 Hz3 es3 e3 fx3 S3 r4 => q3.2 v τ3 H3 Hz3 es3 e3 fx3 S3 ((r4.perm (List.perm_middle.cons _)).perm (List.Perm.swap _ _ _)).tail⟩
        | exc C ns xs ρ3 =>
          rw [ef] at q3
          exact fun dx τ3 H3 Hz3 es3 e3 fx3 x3 S3 r4 => q3 dx τ3 H3 Hz3 es3 e3 fx3 x3 S3 r4.swap4.tail
    · have hl : items.length ≤ i := by omega
      rw [List.drop_eq_nil_of_le hl] at qi
      exact .inl ⟨w2 hl, qi τ H' Hzi esi (Ex.refl _) (Fix.refl _ _) Si ri.tail⟩

/-! ### while -/
def whN (fc : EF) (f : SF) : Nat → SF
  | 0, _ => .stuck
  | n + 1, ρ => (fc ρ).bindS fun x ρ1 => match x.d with
    | .bl true => match f ρ1 with
      | .nx ρ2 => whN fc f n ρ2
      | .ct ρ2 => whN fc f n ρ2
      | .bk ρ2 => .nx ρ2
      | r => r
    | .bl false => .nx ρ1
    | _ => .stuck
def RS.isStuck : RS → Bool
  | .stuck => true
  | _ => false
theorem whN_mono {fc : EF} {f : SF} : ∀ {n : Nat} {ρ : Vr}, (whN fc f n ρ).isStuck = false → ∀ k, whN fc f (n + k) ρ = whN fc f n ρ
  | 0, ρ, h, _ => by cases h
  | n + 1, ρ, h, k => by
    rw [show n + 1 + k = (n + k) + 1 by omega]
    unfold whN at h ⊢
    cases e : fc ρ with
    | stuck => rfl
    | exc => rfl
    | ok x ρ1 =>
      rw [e] at h
      dsimp only [RE.bindS] at h ⊢
      split
      · rename_i e1
        rw [e1] at h
        dsimp only at h
        cases e2 : f ρ1 with
        | nx ρ2 => rw [e2] at h; exact whN_mono h k
        | ct ρ2 => rw [e2] at h; exact whN_mono h k
        | _ => rfl
      · rfl
      · rfl
open Classical in
noncomputable def sWh (fc : EF) (f : SF) : SF := fun ρ => if h : ∃ n, (whN fc f n ρ).isStuck = false then whN fc f (Classical.choose h) ρ else .stuck
theorem sWh_of {fc : EF} {f : SF} {ρ : Vr} (n : Nat) (h : (whN fc f n ρ).isStuck = false) : sWh fc f ρ = whN fc f n ρ := by
  have ex : ∃ n, (whN fc f n ρ).isStuck = false := ⟨n, h⟩
  unfold sWh
  rw [dif_pos ex]
  have h2 := Classical.choose_spec ex
  generalize Classical.choose ex = m at h2
  by_cases c : n ≤ m
  · obtain ⟨k, rfl⟩ := Nat.exists_eq_add_of_le c
    exact whN_mono h k
  · obtain ⟨k, rfl⟩ := Nat.exists_eq_add_of_le (Nat.le_of_not_le c)
    exact (whN_mono h2 k).symm
theorem sWh_n {fc : EF} {f : SF} {ρ : Vr} (h : (sWh fc f ρ).isStuck = false) : ∃ n, (whN fc f n ρ).isStuck = false ∧ sWh fc f ρ = whN fc f n ρ := by
  by_cases ex : ∃ n, (whN fc f n ρ).isStuck = false
  · obtain ⟨n, hn⟩ := ex
    exact ⟨n, hn, sWh_of n hn⟩
  · unfold sWh at h
    rw [dif_neg ex] at h
    cases h
/-- the loop, turn by turn -/
theorem sWh_eq (fc : EF) (f : SF) (ρ : Vr) : sWh fc f ρ = (fc ρ).bindS fun x ρ1 => match x.d with
    | .bl true => match f ρ1 with
      | .nx ρ2 => sWh fc f ρ2
      | .ct ρ2 => sWh fc f ρ2
      | .bk ρ2 => .nx ρ2
      | r => r
    | .bl false => .nx ρ1
    | _ => .stuck := by
  have up : ∀ ρ2, (match sWh fc f ρ2 with | .stuck => True | r => ∃ n, whN fc f n ρ2 = r) := fun ρ2 => by
    cases e : sWh fc f ρ2 with
    | stuck => trivial
    | _ =>
      obtain ⟨n, hn, en⟩ := sWh_n (fc := fc) (f := f) (ρ := ρ2) (by rw [e]; rfl)
      exact ⟨n, by rw [← en, e]⟩
  by_cases ex : ∃ n, (whN fc f n ρ).isStuck = false
  · obtain ⟨n, hn⟩ := ex
    rw [sWh_of n hn]
    cases n with
    | zero => cases hn
    | succ n =>
      unfold whN at hn ⊢
      cases e : fc ρ with
      | stuck => rfl
      | exc => rfl
      | ok x ρ1 =>
        rw [e] at hn
        dsimp only [RE.bindS] at hn ⊢
        split
        · rename_i e1
          rw [e1] at hn
          dsimp only at hn
          cases e2 : f ρ1 with
          | nx ρ2 => rw [e2] at hn; exact (sWh_of n hn).symm
          | ct ρ2 => rw [e2] at hn; exact (sWh_of n hn).symm
          | _ => rfl
        · rfl
        · rfl
  · have hs : sWh fc f ρ = .stuck := by unfold sWh; rw [dif_neg ex]
    rw [hs]
    cases e : fc ρ with
    | stuck => rfl
    | exc C ns xs ρ' => exact absurd ⟨1, by unfold whN; rw [e]; rfl⟩ ex
    | ok x ρ1 =>
      dsimp only [RE.bindS]
      split
      · rename_i e1
        cases e2 : f ρ1 with
        | nx ρ2 =>
          dsimp only
          cases e3 : sWh fc f ρ2 with
          | stuck => rfl
          | _ =>
            obtain ⟨n, hn, en⟩ := sWh_n (fc := fc) (f := f) (ρ := ρ2) (by rw [e3]; rfl)
            exact absurd ⟨n + 1, by unfold whN; rw [e]; dsimp only [RE.bindS]; rw [e1]; dsimp only; rw [e2]; exact hn⟩ ex
        | ct ρ2 =>
          dsimp only
          cases e3 : sWh fc f ρ2 with
          | stuck => rfl
          | _ =>
            obtain ⟨n, hn, en⟩ := sWh_n (fc := fc) (f := f) (ρ := ρ2) (by rw [e3]; rfl)
            exact absurd ⟨n + 1, by unfold whN; rw [e]; dsimp only [RE.bindS]; rw [e1]; dsimp only; rw [e2]; exact hn⟩ ex
        | stuck => rfl
        | bk ρ2 => exact absurd ⟨1, by unfold whN; rw [e]; dsimp only [RE.bindS]; rw [e1]; dsimp only; rw [e2]; rfl⟩ ex
        | rt y ρ2 => exact absurd ⟨1, by unfold whN; rw [e]; dsimp only [RE.bindS]; rw [e1]; dsimp only; rw [e2]; rfl⟩ ex
        | exc C ns xs ρ2 => exact absurd ⟨1, by unfold whN; rw [e]; dsimp only [RE.bindS]; rw [e1]; dsimp only; rw [e2]; rfl⟩ ex
      · rename_i e1
        exact absurd ⟨1, by unfold whN; rw [e]; dsimp only [RE.bindS]; rw [e1]; rfl⟩ ex
      · rfl
theorem ss_while {body : List Stmt} (hp : PassesOwn (model X.prog X.w) X.A X.env X.xe) (hc : ST X W s c fc) (hb : SB X W U body f) : SS X W U (.While c body [] pos) (sWh fc f) := by
  refine psImp (ps_while hp hc hb) fun Z σ H q => ?_
  obtain ⟨ρ, es, Fr, Hz, S, r, q⟩ := q
  have hn : (sWh fc f ρ).isStuck = false := by
    cases e : sWh fc f ρ with
    | stuck => rw [e] at q; exact q.elim
    | _ => rfl
  obtain ⟨n, hn, en⟩ := sWh_n hn
  rw [en] at q
  refine ⟨fun m τ H' => ∃ ρi esi Hzi, Fix U σ τ ∧ Slots τ ρi esi ∧ R X.K (esi ++ Fr) Hzi H' ∧ RetS X.K Fr τ U Hzi W (whN fc f m ρi) Z, ⟨n, ρ, es, Hz, Fix.refl _ _, S, r, q⟩, ?_⟩
  rintro m τ H' ⟨ρi, esi, Hzi, fx, Si, ri, qi⟩
  cases m with
  | zero => exact qi.elim
  | succ m =>
    unfold whN at qi
    refine ⟨ρi, esi, Fr, Hzi, Si, ri, ?_⟩
    cases e : fc ρi with
    | stuck => rw [e] at qi; exact qi
    | exc C ns xs ρ' =>
      rw [e] at qi
      exact fun dx H2 Hz2 es2 ez x S r => qi dx τ H2 Hz2 es2 ez (Fix.refl _ _) x S r
    | ok x ρ1 =>
      rw [e] at qi
      dsimp only [RE.bindS] at qi
      intro v H1 Hz1 es1 ez k1 S1 o1
      have q1 := qi.base ez (Fix.refl _ _)
      split at q1
      · rename_i e1
        refine ⟨true, o1.bl e1, iteT ?_⟩
        refine ⟨fun τ' H'' => ∃ ρi esi Hzi, Fix U σ τ' ∧ Slots τ' ρi esi ∧ R X.K (esi ++ Fr) Hzi H'' ∧ RetS X.K Fr τ' U Hzi W (whN fc f m ρi) Z, fun τ' H'' h => ⟨m, Nat.lt_succ_self _, h⟩, ρ1, es1, Fr, Hz1, S1, o1.rest, ?_⟩
        cases ef : f ρ1 with
        | stuck => rw [ef] at q1; exact q1
        | nx ρ3 => rw [ef] at q1; exact fun τ3 H3 Hz3 es3 e3 fx3 S3 r4 => ⟨ρ3, es3, Hz3, fx.trans fx3, S3, r4, q1.base e3 fx3⟩
        | ct ρ3 => rw [ef] at q1; exact fun τ3 H3 Hz3 es3 e3 fx3 S3 r4 => ⟨ρ3, es3, Hz3, fx.trans fx3, S3, r4, q1.base e3 fx3⟩
        | bk ρ3 => rw [ef] at q1; exact q1
        | rt y ρ3 => rw [ef] at q1; exact q1
        | exc C ns xs ρ3 => rw [ef] at q1; exact q1
      · rename_i e1
        refine ⟨false, o1.bl e1, iteF ?_⟩
        exact q1 τ H1 Hz1 es1 (Ex.refl _) (Fix.refl _ _) S1 o1.rest
      · exact q1.elim
end
end Pd
end
section
/-! Pd: list comprehensions. -/
namespace Pd
open PySem L2
abbrev W0 : WX := fun _ _ _ _ => False
def wipeV (ρ : Vr) : List Nat → Vr
  | [] => ρ
  | v :: vs => (wipeV ρ vs).set v none
section
variable {X : Cx} {W : WX} {U : List Nat} {s sa sb sc : Bool} {pos : Pos} {K : PySem.W.Frag} {fa fb fc : EF} {f g : SF} {σ σ' : L2.St} {H Hz Hz' : Hp} {Z : Ends} {a b c tg : Expr} {es : List Ent} {v : V} {x z : RV} {st : Stmt} {rest : List Stmt}
theorem Slots.wipe : ∀ {vs : List Nat} {σ : L2.St} {ρ : Vr} {es : List Ent}, Slots σ ρ es → ∃ es' dr, Slots (L2.wipe σ vs) (wipeV ρ vs) es' ∧ es.Perm (dr ++ es')
  | [], _, _, es, S => ⟨es, [], S, List.Perm.refl _⟩
  | v :: vs, _, _, _, S => by
    obtain ⟨es1, d1, S1, p1⟩ := Slots.wipe (vs := vs) S
    obtain ⟨es2, d2, S2, p2⟩ := S1.drop (x := none) (i := v)
    exact ⟨es2, d1 ++ d2, S2, by rw [List.append_assoc]; exact p1.trans (p2.append_left _)⟩
theorem Slots.unset {o : Option V} : ∀ {σ : L2.St} {ρ : Vr} {es : List Ent} {i : Nat}, Slots (σ.set i o) ρ es → ρ[i]? = some none ∨ ρ.length ≤ i → Slots σ ρ es := by
  intro σ
  induction σ with
  | nil => intro ρ es i S _; simpa using S
  | cons x σ ih =>
    intro ρ es i S h
    cases i with
    | zero =>
      rw [List.set_cons_zero] at S
      cases S with
      | no S => exact .no S
      | so S => simp at h
    | succ i =>
      rw [List.set_cons_succ] at S
      cases S with
      | no S => exact .no (ih S (by simpa using h))
      | so S => exact .so (ih S (by simpa using h))
theorem wipeV_none {ρ : Vr} {i : Nat} : ∀ {vs : List Nat}, i ∈ vs → (wipeV ρ vs)[i]? = some none ∨ (wipeV ρ vs).length ≤ i
  | v :: vs, h => by
    unfold wipeV
    by_cases e : v = i
    · subst e
      by_cases c : v < (wipeV ρ vs).length
      · exact .inl (List.getElem?_set_self c)
      · exact .inr (by rw [List.length_set]; omega)
    · rw [List.getElem?_set_ne e, List.length_set]
      exact wipeV_none ((List.mem_cons.mp h).elim (fun q => absurd q.symm e) id)
theorem Slots.unwipe {ρ : Vr} : ∀ {vs : List Nat} {σ : L2.St} {es : List Ent}, (∀ i ∈ vs, ρ[i]? = some none ∨ ρ.length ≤ i) → Slots (L2.wipe σ vs) ρ es → Slots σ ρ es
  | [], _, _, _, S => S
  | v :: vs, _, _, h, S => Slots.unwipe (vs := vs) (fun i hi => h i (List.mem_cons_of_mem _ hi)) (Slots.unset S (h v List.mem_cons_self))
theorem wipe_set {i : Nat} {o : Option V} : ∀ {vs : List Nat} {σ : L2.St}, i ∈ vs → L2.wipe (σ.set i o) vs = L2.wipe σ vs
  | v :: vs, σ, h => by
    show (L2.wipe (σ.set i o) vs).set v none = (L2.wipe σ vs).set v none
    by_cases hi : i ∈ vs
    · rw [wipe_set hi]
    · have e : i = v := (List.mem_cons.mp h).elim id fun q => absurd q hi
      subst e
      have : ∀ (ws : List Nat) (τ : L2.St), i ∉ ws → L2.wipe (τ.set i o) ws = (L2.wipe τ ws).set i o := by
        intro ws
        induction ws with
        | nil => intro τ _; rfl
        | cons w ws ih =>
          intro τ hn
          show (L2.wipe (τ.set i o) ws).set w none = ((L2.wipe τ ws).set w none).set i o
          rw [ih τ fun q => hn (List.mem_cons_of_mem _ q), List.set_comm]
          exact fun q => hn (q ▸ List.mem_cons_self)
      rw [this vs σ hi, List.set_set]
theorem wipe_wipe (σ : L2.St) : ∀ (vs ws : List Nat), (∀ i ∈ ws, i ∈ vs) → L2.wipe (L2.wipe σ ws) vs = L2.wipe σ vs
  | vs, [], _ => rfl
  | vs, w :: ws, h => by
    show L2.wipe ((L2.wipe σ ws).set w none) vs = _
    rw [wipe_set (h w List.mem_cons_self), wipe_wipe σ vs ws fun i hi => h i (List.mem_cons_of_mem _ hi)]
/-- a target's slots are the block's own: they are forgotten again -/
theorem names_wipe {vs : List Nat} : ∀ {is : List Nat} {ws : List V} {σ : L2.St} {H : Hp} {Q : L2.St → Hp → Prop}, (∀ i ∈ is, i ∈ vs) → gNames is ws σ H Q → gNames is ws σ H fun σ' H' => L2.wipe σ' vs = L2.wipe σ vs ∧ Q σ' H'
  | [], ws, σ, H, Q, _, h => ⟨h.1, rfl, h.2⟩
  | i :: is, ws, σ, H, Q, hv, h => by
    obtain ⟨v, r, e, h⟩ := h
    refine ⟨v, r, e, ?_⟩
    have h2 := names_wipe (σ := σ.set i (some v)) (fun j hj => hv j (List.mem_cons_of_mem _ hj)) h
    have e2 : L2.wipe (σ.set i (some v)) vs = L2.wipe σ vs := wipe_set (hv i List.mem_cons_self)
    rw [e2] at h2
    exact h2
theorem gT_wipe {vs : List Nat} {t : Tg} {w : V} {Q : L2.St → Hp → Prop} (hv : ∀ i ∈ t.all, i ∈ vs) (h : gT K t w σ H Q) : gT K t w σ H fun σ' H' => L2.wipe σ' vs = L2.wipe σ vs ∧ Q σ' H' := by
  cases t with
  | nm i => exact ⟨wipe_set (hv i (by simp [Tg.all])), h⟩
  | tp is =>
    obtain ⟨a, xs, e1, e2, e3, h⟩ := h
    exact ⟨a, xs, e1, e2, e3, names_wipe hv h⟩
def compL (vs : List Nat) (t : Tg) (ft fe : EF) : List D → List D → EF
  | [], acc, ρ => .ok ⟨1, false, .lst acc⟩ ρ
  | d :: ds, acc, ρ => match bindT t d ρ with
    | some ρ1 => match ft ρ1 with
      | .ok ⟨_, _, .bl true⟩ ρ2 => match fe ρ2 with
        | .ok y ρ3 => if y.b = false ∧ acc.length < BIG then compL vs t ft fe ds (acc ++ [y.d]) (wipeV ρ3 vs) else .stuck
        | _ => .stuck
      | .ok ⟨_, _, .bl false⟩ ρ2 => compL vs t ft fe ds acc (wipeV ρ2 vs)
      | _ => .stuck
    | none => .stuck
/-- vs: the block's own slots -/
def eLc (vs : List Nat) (t : Tg) (fi : IF) (ft fe : EF) : EF := fun ρ => (fi ρ).bindE fun items _ ρ1 => compL vs t ft fe items [] (wipeV ρ1 vs)
theorem ExN.new {p : Addr} {o : HO} {H1 : Hp} (h : Ex H H1) (hp : H p = none) : Ex H (upd H1 p o) := h.mut hp
theorem lc_core {vs : List Nat} {t : Tg} {fi : IF} {ft fe : EF} {Q : VK} (hv : ∀ i ∈ t.all, i ∈ vs) (hs : s = true → sa = true ∧ sb = true ∧ sc = true) (h : tE K W s (eLc vs t fi ft fe) σ H Q) :
    tLc (tI K W sa fi) (gT K t) (tT K W0 sb ft) (tE K W0 sc fe) vs σ H Q := by
  obtain ⟨ρ, es, Fr, Hz, S, r, q⟩ := h
  refine ⟨ρ, es, Fr, Hz, S, r, ?_⟩
  unfold eLc at q
  cases e : fi ρ with
  | stuck => rw [e] at q; exact q
  | exc C ns xs ρ' => rw [e] at q; exact q
  | ok items hold ρ1 =>
    rw [e] at q
    dsimp only [RI.bindE] at q
    intro J hv2 H1 Hz1 es1 ez k1 S1 r1 wk L hL
    have q1 := q.base ez (s' := s) (H1 := H1) fun z => ⟨k1 (hs z).1, z⟩
    obtain ⟨es2, dr, S2, p2⟩ := S1.wipe (vs := vs)
    -- the new list, owned
    have r2 : R K (⟨.ref L, 1, .lst []⟩ :: ⟨hv2, hold.q, hold.d⟩ :: (es2 ++ Fr)) Hz1 (upd H1 L (.lst [])) := by
      have r3 := r1.perm ((p2.append_right Fr).cons ⟨hv2, hold.q, hold.d⟩)
      rw [List.append_assoc] at r3
      have r4 : R K (⟨hv2, hold.q, hold.d⟩ :: (es2 ++ Fr)) Hz1 H1 := (r3.perm (List.perm_middle (l₁ := dr)).symm).right
      exact (new_lst r4 hL .nil).own rfl
    have q2 : ∃ ρi esi Hzi acc, Ex Hz1 Hzi ∧ (s = true → Ex H1 (upd H1 L (.lst []))) ∧ Slots (L2.wipe σ vs) ρi esi ∧ (∀ i ∈ vs, ρi[i]? = some none ∨ ρi.length ≤ i) ∧ R K (⟨.ref L, 1, .lst acc⟩ :: ⟨hv2, hold.q, hold.d⟩ :: (esi ++ Fr)) Hzi (upd H1 L (.lst [])) ∧ RetE K Fr σ Hz1 H1 s W (compL vs t ft fe (items.drop 0) acc ρi) Q :=
      ⟨_, es2, Hz1, [], Ex.refl _, fun _ => Ex.new hL, S2, fun i hi => wipeV_none hi, r2, q1⟩
    refine ⟨fun i m H' => m = items.length - i ∧ i ≤ items.length ∧ ∃ ρi esi Hzi acc, Ex Hz1 Hzi ∧ (s = true → Ex H1 H') ∧ Slots (L2.wipe σ vs) ρi esi ∧ (∀ i ∈ vs, ρi[i]? = some none ∨ ρi.length ≤ i) ∧ R K (⟨.ref L, 1, .lst acc⟩ :: ⟨hv2, hold.q, hold.d⟩ :: (esi ++ Fr)) Hzi H' ∧ RetE K Fr σ Hz1 H1 s W (compL vs t ft fe (items.drop i) acc ρi) Q,
      ⟨items.length, by simp, Nat.zero_le _, q2⟩, ?_⟩
    rintro i m H' ⟨rfl, hi, ρi, esi, Hzi, acc, ezi, kk, Si, wi, ri, qi⟩
    obtain ⟨w1, w2⟩ := wk i _ Hzi H' (ri.perm (List.Perm.swap _ _ _))
    by_cases hlt : i < items.length
    · obtain ⟨d, hd⟩ : ∃ d, items[i]? = some d := ⟨_, List.getElem?_eq_getElem hlt⟩
      obtain ⟨go, yl⟩ := w1 d hd
      have hdrop : items.drop i = d :: items.drop (i + 1) := by
        obtain ⟨h1, h2⟩ := List.getElem?_eq_some_iff.mp hd
        rw [List.drop_eq_getElem_cons h1, h2]
      rw [hdrop] at qi
      unfold compL at qi
      refine .inr ⟨go, fun H'' => ∃ ρi esi Hzi acc, Ex Hz1 Hzi ∧ (s = true → Ex H1 H'') ∧ Slots (L2.wipe σ vs) ρi esi ∧ (∀ i ∈ vs, ρi[i]? = some none ∨ ρi.length ≤ i) ∧ R K (⟨.ref L, 1, .lst acc⟩ :: ⟨hv2, hold.q, hold.d⟩ :: (esi ++ Fr)) Hzi H'' ∧ RetE K Fr σ Hz1 H1 s W (compL vs t ft fe (items.drop (i + 1)) acc ρi) Q,
        fun H'' h => ⟨items.length - (i + 1), by omega, rfl, hlt, h⟩, fun x H2 hy => ?_⟩
      obtain ⟨Hz2, e1, e2, hx, r3⟩ := yl x H2 hy
      have r4 := r3.perm (List.Perm.swap _ _ _)
      cases eb : bindT t d ρi with
      | none => rw [eb] at qi; exact qi.elim
      | some ρ2 =>
        rw [eb] at qi
        dsimp only at qi
        -- frames: the list, the thing walked
        have fr : R K (esi ++ (⟨.ref L, 1, .lst acc⟩ :: ⟨hv2, hold.q, hold.d⟩ :: Fr)) Hz2 H2 := by
          refine r4.perm ?_
          have p1 : (esi ++ (⟨hv2, hold.q, hold.d⟩ :: Fr)).Perm (⟨hv2, hold.q, hold.d⟩ :: (esi ++ Fr)) := List.perm_middle
          exact ((List.perm_middle (l₁ := esi) (a := (⟨.ref L, 1, .lst acc⟩ : Ent))).trans (p1.cons _)).symm
        have fin : gT K t x (L2.wipe σ vs) H2 fun σ2 H3 => tT K W0 sb ft σ2 H3 fun b H4 => if b = true then tE K W0 sc fe σ2 H4 fun y H5 => ∃ acc', H5 L = some (.lst acc') ∧ acc'.length < sizeLine ∧ (∃ ρi esi Hzi acc, Ex Hz1 Hzi ∧ (s = true → Ex H1 (upd H5 L (.lst (acc' ++ [y])))) ∧ Slots (L2.wipe σ2 vs) ρi esi ∧ (∀ i ∈ vs, ρi[i]? = some none ∨ ρi.length ≤ i) ∧ R K (⟨.ref L, 1, .lst acc⟩ :: ⟨hv2, hold.q, hold.d⟩ :: (esi ++ Fr)) Hzi (upd H5 L (.lst (acc' ++ [y]))) ∧ RetE K Fr σ Hz1 H1 s W (compL vs t ft fe (items.drop (i + 1)) acc ρi) Q)
              else (∃ ρi esi Hzi acc, Ex Hz1 Hzi ∧ (s = true → Ex H1 H4) ∧ Slots (L2.wipe σ2 vs) ρi esi ∧ (∀ i ∈ vs, ρi[i]? = some none ∨ ρi.length ≤ i) ∧ R K (⟨.ref L, 1, .lst acc⟩ :: ⟨hv2, hold.q, hold.d⟩ :: (esi ++ Fr)) Hzi H4 ∧ RetE K Fr σ Hz1 H1 s W (compL vs t ft fe (items.drop (i + 1)) acc ρi) Q) := by
          refine bind_core (U := []) (fun _ _ => by simp) hx eb Si fr fun σ2 es3 _ S3 r5 => ?_
          refine ⟨ρ2, es3, _, Hz2, S3, r5, ?_⟩
          have back : ∀ {ρ3 : Vr} {es4 : List Ent} {Hz4 H4 : Hp} {acc : List D}, R K (es4 ++ (⟨.ref L, 1, .lst acc⟩ :: ⟨hv2, hold.q, hold.d⟩ :: Fr)) Hz4 H4 → Slots σ2 ρ3 es4 → ∃ es5, Slots (L2.wipe σ2 vs) (wipeV ρ3 vs) es5 ∧ R K (⟨.ref L, 1, .lst acc⟩ :: ⟨hv2, hold.q, hold.d⟩ :: (es5 ++ Fr)) Hz4 H4 := by
            intro ρ3 es4 Hz4 H4 acc r6 S4
            obtain ⟨es5, dr5, S5, p5⟩ := S4.wipe (vs := vs)
            refine ⟨es5, S5, ?_⟩
            have r7 := r6.perm (p5.append_right _)
            rw [List.append_assoc] at r7
            refine r7.right.perm ?_
            exact (List.perm_middle (l₁ := es5)).trans ((List.perm_middle (l₁ := es5) (a := (⟨hv2, hold.q, hold.d⟩ : Ent))).cons _)
          cases et : ft ρ2 with
          | stuck => rw [et] at qi; exact qi
          | exc C ns xs ρ' => rw [et] at qi; exact qi.elim
          | ok bb ρ3 =>
            rw [et] at qi
            obtain ⟨q0, b0, d0⟩ := bb
            intro w H4 Hz4 es4 e4 k4 S4 o4
            cases d0 with
            | bl tt =>
              refine ⟨tt, o4.bl rfl, ?_⟩
              cases tt with
              | false =>
                refine iteF ?_
                obtain ⟨es5, S5, r7⟩ := back o4.rest S4
                exact ⟨_, es5, Hz4, acc, (ezi.trans e1).trans e4, fun z => ((kk z).trans e2).trans (k4 (hs z).2.1), S5, fun i hi => wipeV_none hi, r7, qi⟩
              | true =>
                refine iteT ?_
                dsimp only at qi
                refine ⟨ρ3, es4, _, Hz4, S4, o4.rest, ?_⟩
                cases ee : fe ρ3 with
                | stuck => rw [ee] at qi; exact qi
                | exc C ns xs ρ' => rw [ee] at qi; exact qi.elim
                | ok y ρ4 =>
                  rw [ee] at qi
                  dsimp only at qi
                  intro yv H5 Hz5 es5 e5 k5 S5 o5
                  split at qi
                  · rename_i c
                    obtain ⟨Hz6, e6, r6⟩ := (o5.own c.1).weaken 0 (.inl (Nat.zero_le _))
                    have rd : Rp K Hz6 yv y.d := r6.rp0
                    obtain ⟨es7, S7, r8⟩ := back r6.tail S5
                    obtain ⟨A, hA⟩ := r8.head
                    obtain ⟨a', vs', B, ea, _, ha, ow⟩ := hA.lst_inv
                    cases ea
                    refine ⟨vs', ha, by rw [ow.length]; exact big_lt c.2, _, es7, Hz6, acc ++ [y.d], (((ezi.trans e1).trans e4).trans e5).trans e6, fun z => ?_, S7, fun i hi => wipeV_none hi, r8.extend ha (.cons rd .nil), qi⟩
                    exact ((((kk z).trans e2).trans (k4 (hs z).2.1)).trans (k5 (hs z).2.2)).mut hL
                  · exact qi.elim
            | _ => exact qi.elim
        have fin2 := gT_wipe hv fin
        -- the slots are forgotten again
        revert fin2
        have mono : ∀ {Q1 Q2 : L2.St → Hp → Prop}, (∀ σ2 H3, L2.wipe σ2 vs = L2.wipe (L2.wipe σ vs) vs → Q1 σ2 H3 → Q2 σ2 H3) → gT K t x (L2.wipe σ vs) H2 (fun σ2 H3 => L2.wipe σ2 vs = L2.wipe (L2.wipe σ vs) vs ∧ Q1 σ2 H3) → gT K t x (L2.wipe σ vs) H2 Q2 := by
          intro Q1 Q2 imp h
          have nm : ∀ {is : List Nat} {ws : List V} {τ : L2.St}, gNames is ws τ H2 (fun σ2 H3 => L2.wipe σ2 vs = L2.wipe (L2.wipe σ vs) vs ∧ Q1 σ2 H3) → gNames is ws τ H2 Q2 := by
            intro is
            induction is with
            | nil => intro ws τ h; exact ⟨h.1, imp _ _ h.2.1 h.2.2⟩
            | cons i is ih => intro ws τ ⟨v, r, e, h⟩; exact ⟨v, r, e, ih h⟩
          cases t with
          | nm i => exact imp _ _ h.1 h.2
          | tp is =>
            obtain ⟨a, xs, e1, e2, e3, h⟩ := h
            exact ⟨a, xs, e1, e2, e3, nm h⟩
        refine mono fun σ2 H3 ew q3 => ?_
        rw [wipe_wipe σ vs vs fun _ h => h] at ew
        rw [ew] at q3
        exact ⟨ew, q3⟩
    · have hl : items.length ≤ i := by omega
      rw [List.drop_eq_nil_of_le hl] at qi
      refine .inl ⟨w2 hl, qi (.ref L) H' Hzi esi ezi kk (Si.unwipe wi) (.of rfl ?_)⟩
      exact (ri.perm (List.Perm.swap _ _ _)).tail
/-- the same, what is walked known; it is there at the end again -/
theorem lc_coreH {vs : List Nat} {t : Tg} {ft fe : EF} {Q : VK} {J : It} {hv2 : V} {hold : RV} {items : List D} {ρ1 : Vr} {es1 Fr : List Ent} {Hz1 H1 : Hp} (hv : ∀ i ∈ t.all, i ∈ vs) (hs : s = true → sb = true ∧ sc = true) (S1 : Slots σ ρ1 es1) (r1 : R K (⟨hv2, hold.q, hold.d⟩ :: (es1 ++ Fr)) Hz1 H1) (wk : Walks K J hv2 hold items)
    (q1 : RetE K (⟨hv2, hold.q, hold.d⟩ :: Fr) σ Hz1 H1 s W (compL vs t ft fe items [] (wipeV ρ1 vs)) Q) : ∀ L, H1 L = none → ∃ Wi : Nat → Nat → Hp → Prop, (∃ m, Wi 0 m (upd H1 L (.lst []))) ∧ ∀ i m H, Wi i m H →
  (J.stop i H ∧ Q (.ref L) H) ∨ (J.go i H ∧ ∃ Nx : Hp → Prop, (∀ H', Nx H' → ∃ m', m' < m ∧ Wi (i + 1) m' H') ∧ ∀ x H', J.yld i H x H' → gT K t x (L2.wipe σ vs) H' fun σ2 H2 => L2.wipe σ2 vs = L2.wipe σ vs ∧ tT K W0 sb ft σ2 H2 fun b H3 =>
    if b = true then tE K W0 sc fe σ2 H3 fun y H4 => ∃ acc, H4 L = some (.lst acc) ∧ acc.length < sizeLine ∧ Nx (upd H4 L (.lst (acc ++ [y]))) else Nx H3) := by
  intro L hL
  obtain ⟨es2, dr, S2, p2⟩ := S1.wipe (vs := vs)
  -- the new list, owned
  have r2 : R K (⟨.ref L, 1, .lst []⟩ :: ⟨hv2, hold.q, hold.d⟩ :: (es2 ++ Fr)) Hz1 (upd H1 L (.lst [])) := by
    have r3 := r1.perm ((p2.append_right Fr).cons ⟨hv2, hold.q, hold.d⟩)
    rw [List.append_assoc] at r3
    have r4 : R K (⟨hv2, hold.q, hold.d⟩ :: (es2 ++ Fr)) Hz1 H1 := (r3.perm (List.perm_middle (l₁ := dr)).symm).right
    exact (new_lst r4 hL .nil).own rfl
  have q2 : ∃ ρi esi Hzi acc, Ex Hz1 Hzi ∧ (s = true → Ex H1 (upd H1 L (.lst []))) ∧ Slots (L2.wipe σ vs) ρi esi ∧ (∀ i ∈ vs, ρi[i]? = some none ∨ ρi.length ≤ i) ∧ R K (⟨.ref L, 1, .lst acc⟩ :: ⟨hv2, hold.q, hold.d⟩ :: (esi ++ Fr)) Hzi (upd H1 L (.lst [])) ∧ RetE K (⟨hv2, hold.q, hold.d⟩ :: Fr) σ Hz1 H1 s W (compL vs t ft fe (items.drop 0) acc ρi) Q :=
    ⟨_, es2, Hz1, [], Ex.refl _, fun _ => Ex.new hL, S2, fun i hi => wipeV_none hi, r2, q1⟩
  refine ⟨fun i m H' => m = items.length - i ∧ i ≤ items.length ∧ ∃ ρi esi Hzi acc, Ex Hz1 Hzi ∧ (s = true → Ex H1 H') ∧ Slots (L2.wipe σ vs) ρi esi ∧ (∀ i ∈ vs, ρi[i]? = some none ∨ ρi.length ≤ i) ∧ R K (⟨.ref L, 1, .lst acc⟩ :: ⟨hv2, hold.q, hold.d⟩ :: (esi ++ Fr)) Hzi H' ∧ RetE K (⟨hv2, hold.q, hold.d⟩ :: Fr) σ Hz1 H1 s W (compL vs t ft fe (items.drop i) acc ρi) Q,
    ⟨items.length, by simp, Nat.zero_le _, q2⟩, ?_⟩
  rintro i m H' ⟨rfl, hi, ρi, esi, Hzi, acc, ezi, kk, Si, wi, ri, qi⟩
  obtain ⟨w1, w2⟩ := wk i _ Hzi H' (ri.perm (List.Perm.swap _ _ _))
  by_cases hlt : i < items.length
  · obtain ⟨d, hd⟩ : ∃ d, items[i]? = some d := ⟨_, List.getElem?_eq_getElem hlt⟩
    obtain ⟨go, yl⟩ := w1 d hd
    have hdrop : items.drop i = d :: items.drop (i + 1) := by
      obtain ⟨h1, h2⟩ := List.getElem?_eq_some_iff.mp hd
      rw [List.drop_eq_getElem_cons h1, h2]
    rw [hdrop] at qi
    unfold compL at qi
    refine .inr ⟨go, fun H'' => ∃ ρi esi Hzi acc, Ex Hz1 Hzi ∧ (s = true → Ex H1 H'') ∧ Slots (L2.wipe σ vs) ρi esi ∧ (∀ i ∈ vs, ρi[i]? = some none ∨ ρi.length ≤ i) ∧ R K (⟨.ref L, 1, .lst acc⟩ :: ⟨hv2, hold.q, hold.d⟩ :: (esi ++ Fr)) Hzi H'' ∧ RetE K (⟨hv2, hold.q, hold.d⟩ :: Fr) σ Hz1 H1 s W (compL vs t ft fe (items.drop (i + 1)) acc ρi) Q,
      fun H'' h => ⟨items.length - (i + 1), by omega, rfl, hlt, h⟩, fun x H2 hy => ?_⟩
    obtain ⟨Hz2, e1, e2, hx, r3⟩ := yl x H2 hy
    have r4 := r3.perm (List.Perm.swap _ _ _)
    cases eb : bindT t d ρi with
    | none => rw [eb] at qi; exact qi.elim
    | some ρ2 =>
      rw [eb] at qi
      dsimp only at qi
      -- frames: the list, the thing walked
      have fr : R K (esi ++ (⟨.ref L, 1, .lst acc⟩ :: ⟨hv2, hold.q, hold.d⟩ :: Fr)) Hz2 H2 := by
        refine r4.perm ?_
        have p1 : (esi ++ (⟨hv2, hold.q, hold.d⟩ :: Fr)).Perm (⟨hv2, hold.q, hold.d⟩ :: (esi ++ Fr)) := List.perm_middle
        exact ((List.perm_middle (l₁ := esi) (a := (⟨.ref L, 1, .lst acc⟩ : Ent))).trans (p1.cons _)).symm
      have fin : gT K t x (L2.wipe σ vs) H2 fun σ2 H3 => tT K W0 sb ft σ2 H3 fun b H4 => if b = true then tE K W0 sc fe σ2 H4 fun y H5 => ∃ acc', H5 L = some (.lst acc') ∧ acc'.length < sizeLine ∧ (∃ ρi esi Hzi acc, Ex Hz1 Hzi ∧ (s = true → Ex H1 (upd H5 L (.lst (acc' ++ [y])))) ∧ Slots (L2.wipe σ2 vs) ρi esi ∧ (∀ i ∈ vs, ρi[i]? = some none ∨ ρi.length ≤ i) ∧ R K (⟨.ref L, 1, .lst acc⟩ :: ⟨hv2, hold.q, hold.d⟩ :: (esi ++ Fr)) Hzi (upd H5 L (.lst (acc' ++ [y]))) ∧ RetE K (⟨hv2, hold.q, hold.d⟩ :: Fr) σ Hz1 H1 s W (compL vs t ft fe (items.drop (i + 1)) acc ρi) Q)
            else (∃ ρi esi Hzi acc, Ex Hz1 Hzi ∧ (s = true → Ex H1 H4) ∧ Slots (L2.wipe σ2 vs) ρi esi ∧ (∀ i ∈ vs, ρi[i]? = some none ∨ ρi.length ≤ i) ∧ R K (⟨.ref L, 1, .lst acc⟩ :: ⟨hv2, hold.q, hold.d⟩ :: (esi ++ Fr)) Hzi H4 ∧ RetE K (⟨hv2, hold.q, hold.d⟩ :: Fr) σ Hz1 H1 s W (compL vs t ft fe (items.drop (i + 1)) acc ρi) Q) := by
        refine bind_core (U := []) (fun _ _ => by simp) hx eb Si fr fun σ2 es3 _ S3 r5 => ?_
        refine ⟨ρ2, es3, _, Hz2, S3, r5, ?_⟩
        have back : ∀ {ρ3 : Vr} {es4 : List Ent} {Hz4 H4 : Hp} {acc : List D}, R K (es4 ++ (⟨.ref L, 1, .lst acc⟩ :: ⟨hv2, hold.q, hold.d⟩ :: Fr)) Hz4 H4 → Slots σ2 ρ3 es4 → ∃ es5, Slots (L2.wipe σ2 vs) (wipeV ρ3 vs) es5 ∧ R K (⟨.ref L, 1, .lst acc⟩ :: ⟨hv2, hold.q, hold.d⟩ :: (es5 ++ Fr)) Hz4 H4 := by
          intro ρ3 es4 Hz4 H4 acc r6 S4
          obtain ⟨es5, dr5, S5, p5⟩ := S4.wipe (vs := vs)
          refine ⟨es5, S5, ?_⟩
          have r7 := r6.perm (p5.append_right _)
          rw [List.append_assoc] at r7
          refine r7.right.perm ?_
          exact (List.perm_middle (l₁ := es5)).trans ((List.perm_middle (l₁ := es5) (a := (⟨hv2, hold.q, hold.d⟩ : Ent))).cons _)
        cases et : ft ρ2 with
        | stuck => rw [et] at qi; exact qi
        | exc C ns xs ρ' => rw [et] at qi; exact qi.elim
        | ok bb ρ3 =>
          rw [et] at qi
          obtain ⟨q0, b0, d0⟩ := bb
          intro w H4 Hz4 es4 e4 k4 S4 o4
          cases d0 with
          | bl tt =>
            refine ⟨tt, o4.bl rfl, ?_⟩
            cases tt with
            | false =>
              refine iteF ?_
              obtain ⟨es5, S5, r7⟩ := back o4.rest S4
              exact ⟨_, es5, Hz4, acc, (ezi.trans e1).trans e4, fun z => ((kk z).trans e2).trans (k4 (hs z).1), S5, fun i hi => wipeV_none hi, r7, qi⟩
            | true =>
              refine iteT ?_
              dsimp only at qi
              refine ⟨ρ3, es4, _, Hz4, S4, o4.rest, ?_⟩
              cases ee : fe ρ3 with
              | stuck => rw [ee] at qi; exact qi
              | exc C ns xs ρ' => rw [ee] at qi; exact qi.elim
              | ok y ρ4 =>
                rw [ee] at qi
                dsimp only at qi
                intro yv H5 Hz5 es5 e5 k5 S5 o5
                split at qi
                · rename_i c
                  obtain ⟨Hz6, e6, r6⟩ := (o5.own c.1).weaken 0 (.inl (Nat.zero_le _))
                  have rd : Rp K Hz6 yv y.d := r6.rp0
                  obtain ⟨es7, S7, r8⟩ := back r6.tail S5
                  obtain ⟨A, hA⟩ := r8.head
                  obtain ⟨a', vs', B, ea, _, ha, ow⟩ := hA.lst_inv
                  cases ea
                  refine ⟨vs', ha, by rw [ow.length]; exact big_lt c.2, _, es7, Hz6, acc ++ [y.d], (((ezi.trans e1).trans e4).trans e5).trans e6, fun z => ?_, S7, fun i hi => wipeV_none hi, r8.extend ha (.cons rd .nil), qi⟩
                  exact ((((kk z).trans e2).trans (k4 (hs z).1)).trans (k5 (hs z).2)).mut hL
                · exact qi.elim
          | _ => exact qi.elim
      have fin2 := gT_wipe hv fin
      -- the slots are forgotten again
      revert fin2
      have mono : ∀ {Q1 Q2 : L2.St → Hp → Prop}, (∀ σ2 H3, L2.wipe σ2 vs = L2.wipe (L2.wipe σ vs) vs → Q1 σ2 H3 → Q2 σ2 H3) → gT K t x (L2.wipe σ vs) H2 (fun σ2 H3 => L2.wipe σ2 vs = L2.wipe (L2.wipe σ vs) vs ∧ Q1 σ2 H3) → gT K t x (L2.wipe σ vs) H2 Q2 := by
        intro Q1 Q2 imp h
        have nm : ∀ {is : List Nat} {ws : List V} {τ : L2.St}, gNames is ws τ H2 (fun σ2 H3 => L2.wipe σ2 vs = L2.wipe (L2.wipe σ vs) vs ∧ Q1 σ2 H3) → gNames is ws τ H2 Q2 := by
          intro is
          induction is with
          | nil => intro ws τ h; exact ⟨h.1, imp _ _ h.2.1 h.2.2⟩
          | cons i is ih => intro ws τ ⟨v, r, e, h⟩; exact ⟨v, r, e, ih h⟩
        cases t with
        | nm i => exact imp _ _ h.1 h.2
        | tp is =>
          obtain ⟨a, xs, e1, e2, e3, h⟩ := h
          exact ⟨a, xs, e1, e2, e3, nm h⟩
      refine mono fun σ2 H3 ew q3 => ?_
      rw [wipe_wipe σ vs vs fun _ h => h] at ew
      rw [ew] at q3
      exact ⟨ew, q3⟩
  · have hl : items.length ≤ i := by omega
    rw [List.drop_eq_nil_of_le hl] at qi
    refine .inl ⟨w2 hl, qi (.ref L) H' Hzi esi ezi kk (Si.unwipe wi) (.of rfl ?_)⟩
    exact ri.perm (List.perm_middle.symm.cons _)
end
end Pd
end
section
/-! Pd: defs and their calls. -/
namespace Pd
open PySem L2 PyProof.Rows PySem.Spec
/-- a def on the trees: io: which parameters are lent; ns: how many names -/
structure FnC where
  np : Nat
  ns : Nat
  io : List Bool
  body : SF
def outs : List Bool → Vr → List Slot
  | b :: io, s :: ρ => (if b = true then s else none) :: outs io ρ
  | b :: io, [] => none :: outs io []
  | [], _ => []
def enter (fc : FnC) (xs : List RV) : Vr := xs.map (fun x => some (x.q, x.d)) ++ List.replicate (fc.ns - fc.np) none
def runFn (fc : FnC) (xs : List RV) : RC := if xs.length = fc.np ∧ fc.io.length = fc.np then match fc.body (enter fc xs) with
    | .rt x ρ => .ok x (outs fc.io ρ)
    | .nx ρ => .ok (pureV .non) (outs fc.io ρ)
    | .exc C ns xs _ => .exc C ns xs
    | _ => .stuck
  else .stuck
def outE : List V → List Slot → List Ent
  | v :: vs, some (m, d) :: os => ⟨v, m, d⟩ :: outE vs os
  | _ :: vs, none :: os => outE vs os
  | _, _ => []
/-- a def's promise -/
def spF (K : PySem.W.Frag) (np : Nat) (cl : List RV → RC) : Sp := fun vs H Q E => ∃ (xs : List RV) (Fr : List Ent) (Hz : Hp), vs.length = np ∧ vs.length = xs.length ∧ R K (zipE vs xs ++ Fr) Hz H ∧ match cl xs with
  | .ok x os => x.b = false ∧ ∀ v H' Hz', Ex Hz Hz' → R K (⟨v, x.q, x.d⟩ :: (outE vs os ++ Fr)) Hz' H' → Q v H'
  | .exc C ns ys => ∀ dx H' Hz', Ex Hz Hz' → ExcAt K Hz' ns ys dx → R K Fr Hz' H' → E (.ref (ca K C)) dx H'
  | .stuck => False
section
variable {P : Program} {w : World} {K : PySem.W.Frag} {mg : Str → Option Value} {base : Heap}
theorem slots_enter {n : Nat} : ∀ {vs : List V} {xs : List RV}, vs.length = xs.length → Slots (vs.map some ++ List.replicate n none) (xs.map (fun x => some (x.q, x.d)) ++ List.replicate n none) (zipE vs xs)
  | [], [], _ => by
    show Slots (List.replicate n none) (List.replicate n none) []
    induction n with
    | zero => exact .nil
    | succ n ih => exact .no ih
  | v :: vs, x :: xs, h => .so (slots_enter (by simpa using h))
  | [], _ :: _, h => by simp at h
  | _ :: _, [], h => by simp at h
/-- what is given back lies in the slots -/
theorem outs_core : ∀ {io : List Bool} {vs : List V} {σ : L2.St} {ρ : Vr} {es : List Ent}, Slots σ ρ es → vs.length = io.length → (∀ i : Nat, io[i]? = some true → σ[i]? = (vs[i]?).map some) → ∃ dr, es.Perm (outE vs (outs io ρ) ++ dr)
  | [], vs, σ, ρ, es, S, l, h => by
    have : vs = [] := List.length_eq_zero_iff.mp (by simpa using l)
    subst this
    exact ⟨es, List.Perm.refl _⟩
  | b :: io, [], _, _, _, _, l, _ => by simp at l
  | b :: io, v :: vs, _, _, _, .nil, l, h => by
    cases b with
    | true => have := h 0 rfl; simp at this
    | false =>
      obtain ⟨dr, p⟩ := outs_core (io := io) (vs := vs) .nil (by simpa using l) fun i hi => by
        have := h (i + 1) (by simpa using hi)
        simpa using this
      exact ⟨dr, p⟩
  | b :: io, v :: vs, _, _, _, .no S, l, h => by
    obtain ⟨dr, p⟩ := outs_core (io := io) (vs := vs) S (by simpa using l) fun i hi => by simpa using h (i + 1) (by simpa using hi)
    refine ⟨dr, ?_⟩
    unfold outs
    cases b <;> exact p
  | b :: io, v :: vs, _, _, _, .so (v := u) (m := m) (d := d) S, l, h => by
    obtain ⟨dr, p⟩ := outs_core (io := io) (vs := vs) S (by simpa using l) fun i hi => by simpa using h (i + 1) (by simpa using hi)
    unfold outs
    cases b with
    | true =>
      have e := h 0 rfl
      simp at e
      subst e
      exact ⟨dr, p.cons _⟩
    | false => exact ⟨⟨u, m, d⟩ :: dr, (p.cons _).trans List.perm_middle.symm⟩
/-- THE RULE: a def, by its body on the trees -/
theorem def_ok {x qual : Str} {params : Arguments} {body : List Stmt} {scope : Scope} {dvs : List V} {kws : List (Str × V)} {f : Addr} {fd : FuncData} {N ps : List Str} {k : Nat} {fc : FnC} {U : List Nat} (F : FunD K x qual params body scope dvs kws f fd) (S : FnScope N ps scope)
    (hn : ps.length = fc.np) (hN : N.length = fc.ns) (hio : fc.io.length = fc.np) (hU : ∀ i : Nat, fc.io[i]? = some true → i ∈ U)
    (hb : ∀ (cdv : Value) (A : Around) (outer : List Env) (s : Shared) (H : Hp) (E : XK), Room k (A.deeper (envOfC qual scope s.heap.objs.size f cdv)) →
      SB (cxOf (L2.CX P w) P w K mg base N qual scope f cdv A outer s H E) (fun cls d _ H => E cls d H) U body fc.body) : FnOk P w K mg base (L2.CX P w) (k + 1) f fd ps (spF K fc.np (runFn fc)) := by
  refine F.ok S (fun vs H Q E h => ?_) fun cdv A outer s H vs Q E hr h => ⟨_, hb cdv A outer s H E hr, ?_⟩
  · obtain ⟨xs, Fr, Hz, h1, _⟩ := h
    rw [h1, hn]
  · obtain ⟨xs, Fr, Hz, h1, h2, r, q⟩ := h
    have hx : xs.length = fc.np := by omega
    have e0 : L2.start N vs = vs.map some ++ List.replicate (fc.ns - fc.np) none := by unfold L2.start; rw [hN, h1]
    have S0 : Slots (L2.start N vs) (enter fc xs) (zipE vs xs) := by rw [e0]; exact slots_enter h2
    refine ⟨enter fc xs, zipE vs xs, Fr, Hz, S0, r, ?_⟩
    unfold runFn at q
    rw [if_pos ⟨hx, hio⟩] at q
    have back : ∀ {σ' : L2.St} {ρ' : Vr} {es' : List Ent}, Fix U (L2.start N vs) σ' → Slots σ' ρ' es' → ∃ dr, es'.Perm (outE vs (outs fc.io ρ') ++ dr) := fun {σ' ρ' es'} fx S' => by
      refine outs_core S' (by omega) fun i hi => ?_
      rw [fx i (hU i hi), e0]
      have hi2 : i < vs.length := by
        have := (List.getElem?_eq_some_iff.mp hi).1
        omega
      rw [List.getElem?_append_left (by rw [List.length_map]; exact hi2), List.getElem?_map]
    cases e : fc.body (enter fc xs) with
    | stuck => rw [e] at q; exact q
    | bk ρ' => rw [e] at q; exact q.elim
    | ct ρ' => rw [e] at q; exact q.elim
    | exc C ns ys ρ' =>
      rw [e] at q
      exact fun dx σ' H' Hz' es' ez fx ea S' r' => q dx H' Hz' ez ea r'.right
    | nx ρ' =>
      rw [e] at q
      intro σ' H' Hz' es' ez fx S' r'
      obtain ⟨dr, p⟩ := back fx S'
      refine q.2 .non H' Hz' ez ?_
      have r2 := r'.perm (p.append_right Fr)
      rw [List.append_assoc] at r2
      have r3 : R K (dr ++ (outE vs (outs fc.io ρ') ++ Fr)) Hz' H' := r2.perm (by rw [← List.append_assoc, ← List.append_assoc]; exact List.perm_append_comm.append_right _)
      exact r3.right.put (.inl rfl) .non
    | rt x ρ' =>
      rw [e] at q
      refine ⟨q.1, fun v σ' H' Hz' es' ez fx S' r' => ?_⟩
      obtain ⟨dr, p⟩ := back fx S'
      refine q.2 v H' Hz' ez ?_
      have r2 := r'.perm ((p.append_right Fr).cons _)
      rw [List.append_assoc] at r2
      have r3 : R K (dr ++ (⟨v, x.q, x.d⟩ :: (outE vs (outs fc.io ρ') ++ Fr))) Hz' H' := by
        refine r2.perm ?_
        refine List.Perm.trans ?_ List.perm_middle.symm
        refine List.Perm.cons _ ?_
        rw [← List.append_assoc, ← List.append_assoc]
        exact List.perm_append_comm.append_right _
      exact r3.right
/-- a def that is never called -/
theorem fnOk_stuck {k : Nat} {f : Addr} {fd : FuncData} {ps : List Str} {np : Nat} {cl : List RV → RC} (h : ∀ xs, cl xs = .stuck) : FnOk P w K mg base (L2.CX P w) k f fd ps (spF K np cl) :=
  ⟨fun vs H Q E q => by
    obtain ⟨xs, Fr, Hz, _, _, _, q⟩ := q
    rw [h] at q
    exact q.elim, fun A outer s H args us vs Q E hr e0 hb hv q => by
    obtain ⟨xs, Fr, Hz, _, _, _, q⟩ := q
    rw [h] at q
    exact q.elim⟩
end
/-! ### calls -/
/-- what was lent comes back -/
def giveBack : List Ar → List Slot → Vr → Vr
  | .io i :: as, some s :: os, ρ => giveBack as os (ρ.set i (some s))
  | _ :: as, _ :: os, ρ => giveBack as os ρ
  | _, _, ρ => ρ
/-- dfl: the defaults that fill up -/
def eCall (cl : List RV → RC) (dfl : List D) (as : List Ar) : EF := fun ρ => (evA as ρ).bind fun xs ρ1 => match cl (xs ++ dfl.map pureV) with
  | .ok x os => if x.b = true then .stuck else .ok x (giveBack as os ρ1)
  | .exc C ns ys => .exc C ns ys ρ1
  | .stuck => .stuck
section
variable {X : Cx} {W : WX} {s sa sb : Bool} {pos : Pos} {K : PySem.W.Frag} {σ : L2.St} {H Hz : Hp} {Q : VK} {a b : Expr} {fa : EF}
theorem zipE_append : ∀ {vs ws : List V} {xs ys : List RV}, vs.length = xs.length → zipE (vs ++ ws) (xs ++ ys) = zipE vs xs ++ zipE ws ys
  | [], _, [], _, _ => rfl
  | v :: vs, ws, x :: xs, ys, h => by
    show _ :: zipE (vs ++ ws) (xs ++ ys) = _ :: (zipE vs xs ++ zipE ws ys)
    rw [zipE_append (by simpa using h)]
  | [], _, _ :: _, _, h => by simp at h
  | _ :: _, _, [], _, h => by simp at h
theorem R.putL {es : List Ent} (r : R K es Hz H) : ∀ {ws : List V} {ds : List D}, RpL K Hz ws ds → R K (zipE ws (ds.map pureV) ++ es) Hz H
  | _, _, .nil => r
  | _, _, .cons h l => (R.putL r l).put (.inl rfl) h
theorem back_core : ∀ {as : List Ar} {vs : List V} {os : List Slot} {σ : L2.St} {ρ : Vr} {es Fr : List Ent} {Hz H : Hp}, Lent σ as vs → Slots σ ρ es → R K (outE vs os ++ (es ++ Fr)) Hz H → ∃ es', Slots σ (giveBack as os ρ) es' ∧ R K (es' ++ Fr) Hz H
  | [], _, os, σ, ρ, es, Fr, Hz, H, .nil, S, r => by
    cases os <;> exact ⟨es, S, r.right⟩
  | _ :: _, _, [], σ, ρ, es, Fr, Hz, H, l, S, r => by
    refine ⟨es, ?_, r.right (es := outE _ [])⟩
    cases l <;> exact S
  | .ev f :: as, v :: vs, o :: os, σ, ρ, es, Fr, Hz, H, .ev l, S, r => by
    have r2 : R K (outE vs os ++ (es ++ Fr)) Hz H := by
      cases o with
      | none => exact r
      | some md => exact r.tail
    obtain ⟨es', S', r'⟩ := back_core l S r2
    refine ⟨es', ?_, r'⟩
    unfold giveBack; exact S'
  | .io i :: as, v :: vs, none :: os, σ, ρ, es, Fr, Hz, H, .io e l, S, r => by
    obtain ⟨es', S', r'⟩ := back_core l S r
    exact ⟨es', S', r'⟩
  | .io i :: as, v :: vs, some (m, d) :: os, σ, ρ, es, Fr, Hz, H, .io e l, S, r => by
    have r1 : R K (⟨v, m, d⟩ :: (outE vs os ++ (es ++ Fr))) Hz H := r
    by_cases hi : i < ρ.length
    · obtain ⟨es1, dr, es2, h1, h2, h3⟩ := S.store (v := v) (m := m) (d := d) hi
      have hσ : σ.set i (some v) = σ := by
        apply List.ext_getElem?
        intro j
        by_cases hj : i = j
        · subst hj
          rw [e, List.getElem?_set_self (List.getElem?_eq_some_iff.mp e).1]
        · rw [List.getElem?_set_ne hj]
      rw [hσ] at h1
      have r2 : R K (outE vs os ++ (es2 ++ Fr)) Hz H := by
        have r3 := r1.perm (((h3.append_right Fr).append_left (outE vs os)).cons _)
        -- drop what the slot held
        have r4 : R K (dr ++ (⟨v, m, d⟩ :: (outE vs os ++ (es1 ++ Fr)))) Hz H := by
          refine r3.perm ?_
          refine List.Perm.trans ?_ List.perm_middle.symm
          refine List.Perm.cons _ ?_
          rw [List.append_assoc, ← List.append_assoc, ← List.append_assoc dr]
          exact List.perm_append_comm.append_right _
        refine r4.right.perm ?_
        refine List.Perm.trans ?_ ((h2.append_right Fr).append_left (outE vs os)).symm
        exact List.perm_middle.symm
      obtain ⟨es', S', r'⟩ := back_core l h1 r2
      exact ⟨es', S', r'⟩
    · obtain ⟨es', S', r'⟩ := back_core (os := os) l S r1.tail
      refine ⟨es', ?_, r'⟩
      show Slots σ (giveBack as os (ρ.set i (some (m, d)))) es'
      rw [List.set_eq_of_length_le (by omega)]
      exact S'
/-- the end of any call -/
theorem call_fin {cl : List RV → RC} {dfl : List D} {as : List Ar} {vs dvs : List V} {xs : List RV} {ρ1 : Vr} {es1 Fr : List Ent} {np : Nat} (S : Slots σ ρ1 es1) (l : vs.length = xs.length) (t : Lent σ as vs) (r : R K (zipE vs xs ++ (es1 ++ Fr)) Hz H)
    (hd : RpL K Hz dvs dfl) (hnp : ∀ ys, cl ys ≠ .stuck → ys.length = np) (q : RetE K Fr σ Hz H false W (match cl (xs ++ dfl.map pureV) with
      | .ok x os => if x.b = true then .stuck else .ok x (giveBack as os ρ1)
      | .exc C ns ys => .exc C ns ys ρ1
      | .stuck => .stuck) Q) : spF K np cl (vs ++ dvs) H Q (WE W σ) := by
  have hl : (vs ++ dvs).length = (xs ++ dfl.map pureV).length := by rw [List.length_append, List.length_append, List.length_map, l, hd.length]
  have hns : cl (xs ++ dfl.map pureV) ≠ .stuck := fun e => by rw [e] at q; exact q.elim
  refine ⟨xs ++ dfl.map pureV, es1 ++ Fr, Hz, by rw [hl]; exact hnp _ hns, hl, ?_, ?_⟩
  · rw [zipE_append l, List.append_assoc]
    have r2 : R K (zipE dvs (dfl.map pureV) ++ (zipE vs xs ++ (es1 ++ Fr))) Hz H := r.putL hd
    refine r2.perm ?_
    rw [← List.append_assoc (zipE dvs _), ← List.append_assoc (zipE vs xs)]
    exact List.perm_append_comm.append_right _
  · have oE : ∀ {ws : List V} {vs : List V} {os : List Slot}, ∃ more, outE (vs ++ ws) os = outE vs os ++ more := by
      intro ws vs
      induction vs with
      | nil => intro os; exact ⟨outE ws os, by cases os <;> rfl⟩
      | cons v vs ih =>
        intro os
        cases os with
        | nil => exact ⟨[], by rfl⟩
        | cons o os =>
          obtain ⟨more, e⟩ := ih (os := os)
          cases o with
          | none => exact ⟨more, e⟩
          | some md => exact ⟨more, congrArg (List.cons _) e⟩
    cases e : cl (xs ++ dfl.map pureV) with
    | stuck => exact absurd e hns
    | exc C ns ys =>
      rw [e] at q
      exact fun dx H' Hz' ez ea r' => q dx H' Hz' es1 ez ea S r'
    | ok x os =>
      rw [e] at q
      dsimp only at q ⊢
      split at q
      · exact q.elim
      · rename_i hb
        have hb' : x.b = false := by simpa using hb
        refine ⟨hb', fun v H' Hz' ez r' => ?_⟩
        obtain ⟨more, em⟩ := oE (ws := dvs) (vs := vs) (os := os)
        rw [em, List.append_assoc] at r'
        -- the value aside; what the defaults gave back is dropped
        have r2 : R K (outE vs os ++ (es1 ++ (⟨v, x.q, x.d⟩ :: Fr))) Hz' H' := by
          have r3 : R K (more ++ (⟨v, x.q, x.d⟩ :: (outE vs os ++ (es1 ++ Fr)))) Hz' H' := by
            refine r'.perm ?_
            refine List.Perm.trans ?_ List.perm_middle.symm
            refine List.Perm.cons _ ?_
            rw [← List.append_assoc, ← List.append_assoc more]
            exact List.perm_append_comm.append_right _
          refine r3.right.perm ?_
          rw [← List.append_assoc, ← List.append_assoc]
          exact List.perm_middle.symm
        obtain ⟨es', S', r4⟩ := back_core t S r2
        exact q v H' Hz' es' ez (fun z => by cases z) S' (.of hb' r4.swap4)
theorem runFn_np {fc : FnC} {ys : List RV} (h : runFn fc ys ≠ .stuck) : ys.length = fc.np := by
  unfold runFn at h
  split at h
  · rename_i c; exact c.1
  · exact absurd rfl h
end
end Pd
end
section
/-! Pd: calls of defs, of methods, of classes. -/
namespace Pd
open PySem L2 PyProof.Rows PySem.Spec
/-- the def at f, called with so many arguments that dfl fills up -/
structure Callee (X : Cx) (k : Nat) (f : Addr) (np : Nat) (cl : List RV → RC) (dfl : List D) : Prop where
  ex : ∃ (fd : FuncData) (ps : List Str) (dvs : List V) (ds : List Value), FnOk X.prog X.w X.K X.mg X.base (L2.CX X.prog X.w) k f fd ps (spF X.K np cl) ∧ Binds X.K fd ps ds ∧ Vals dvs ds ∧ ∀ H, RpL X.K H dvs dfl
  np : ∀ ys, cl ys ≠ .stuck → ys.length = np
section
variable {X : Cx} {W : WX} {s sa sb : Bool} {p pos apos : Pos} {K : PySem.W.Frag} {σ : L2.St} {H Hz : Hp} {Q : VK} {a b : Expr} {fa : EF} {k np : Nat} {f : Addr} {cl : List RV → RC} {dfl : List D} {es : List Expr} {as : List Ar}
theorem se_call {x : Str} (F : Callee X k f np cl dfl) (hm : X.mg x = some (.ref f)) (hk : PySem.W.keepIn X.K (.ref f) = true) (hr : Room k X.A) (tk : Takes X W) (ha : SA X W false (a :: es) as) (hg : Gl X x := by rfl) (hdb : (x == ("__debug__" : Str)) = false := by decide)
    (he : starEach (a :: es) X.env = (false, eval a X.env) :: starEach es X.env := by rfl) (hpl : (backTo pos (starEach es X.env)).any (·.1) = false := by rfl) : SE X W false (.Call (.Name x p) (a :: es) [] pos) (eCall cl dfl as) := by
  obtain ⟨fd, ps, dvs, ds, F1, hb, hd, hz⟩ := F.ex
  refine peImp (pe_callSD F1 hr hg hm hk hb hd (passAt tk) ha hdb he hpl) fun σ H Q q => ?_
  exact oneA q id fun vs xs ρ1 es1 Fr Hz1 H1 S l t r q => call_fin S l t r (hz _) F.np q
/-- no arguments -/
theorem pe_callS0 {CX : CXT} {fd : FuncData} {ps : List Str} {sp : Sp} {dvs : List V} {ds : List Value} {E : L2.St → XK} {x : Str} (F : FnOk X.prog X.w X.K X.mg X.base CX k f fd ps sp) (hr : Room k X.A) (hg : Gl X x) (hm : X.mg x = some (.ref f)) (hk : PySem.W.keepIn X.K (.ref f) = true) (hb : Binds X.K fd ps ds) (hd : Vals dvs ds) (hx : ∀ σ, PassesAt CX X σ (E σ))
    (hdb : (x == ("__debug__" : Str)) = false := by decide) : PE X (.Call (.Name x p) [] [] pos) (tCallSD sp dvs E tNil) := by
  refine ⟨fun pins s σ H Q I h => ?_⟩
  refine wpAny_Call_Name_kw (ld_glob I hg hm ?_ hdb)
  exact PySem.W.callWith_K0 I.kIn hk (run_fnSD (us := []) F hr hb hd (hx σ) I .nil h)
theorem se_call0 {x : Str} (F : Callee X k f np cl dfl) (hm : X.mg x = some (.ref f)) (hk : PySem.W.keepIn X.K (.ref f) = true) (hr : Room k X.A) (tk : Takes X W) (hg : Gl X x := by rfl) (hdb : (x == ("__debug__" : Str)) = false := by decide) : SE X W false (.Call (.Name x p) [] [] pos) (eCall cl dfl []) := by
  obtain ⟨fd, ps, dvs, ds, F1, hb, hd, hz⟩ := F.ex
  refine peImp (pe_callS0 F1 hr hg hm hk hb hd (passAt tk) hdb) fun σ H Q q => ?_
  obtain ⟨ρ, es, Fr, Hz, S, r, q⟩ := q
  exact call_fin (vs := []) (xs := []) (as := []) S rfl .nil r (hz _) F.np q

/-! ### methods -/
/-- a method of the class at C -/
def MOk (X : Cx) (k : Nat) (C : Addr) (m : Str) (np : Nat) (cl : List RV → RC) (dfl : List D) : Prop := Cls X.K C ∧ ∃ g, Meth X.K C m g ∧ Callee X k g np cl dfl
def tMethD (X : Cx) (k : Nat) (m : Str) (E : L2.St → XK) (ta : TE) (t : TA) : TE := fun σ H Q => ta σ H fun x H1 => ∃ a C dx fs np cl dfl, x = .ref a ∧ H1 a = some (.ins C dx fs) ∧ fs.lookup m = none ∧ MOk X k C m np cl dfl ∧
  t σ H1 fun vs H2 => ∀ dvs, (∀ H, RpL X.K H dvs dfl) → spF X.K np cl (x :: (vs ++ dvs)) H2 Q (E σ)
theorem pe_methD {m : Str} {E : L2.St → XK} {o e : Expr} {ta : TE} {t : TA} {pl : Sem Bool} (he : PE X o ta) (hr : Room k X.A) (hx : ∀ σ, PassesAt (L2.CX X.prog X.w) X σ (E σ)) (ha : PA X (e :: es) t)
    (hst : starEach (e :: es) X.env = (false, eval e X.env) :: starEach es X.env) (hpl : (backTo pos (starEach es X.env)).any (·.1) = false)
    (ht : eval (.Call (.Attribute o m apos) (e :: es) [] pos) X.env = (do
      let ov ← eval o X.env
      standAt apos.atName
      let (f, first) ← holding [ov] (getMethod ov m pl)
      callWith pos f first (backTo pos (starEach (e :: es) X.env)) (backToKw pos (keywordEach [] X.env)))) :
    PE X (.Call (.Attribute o m apos) (e :: es) [] pos) (tMethD X k m E ta t) := by
  refine ⟨fun pins s σ H Q I h => ?_⟩
  refine PySem.W.methodCall_KW (pl := pl) (thn (he.run pins s σ H _ I h) fun u s1 ⟨x, H1, I1, rx, a, C, dx, fs, np, cl, dfl, ex, ea, l, ⟨c, g, hm, F⟩, q⟩ => ?_) ht
  subst ex
  obtain rfl : u = Value.ref a := rx
  obtain ⟨fd, ps, dvs, ds, F1, hb, hd, hz⟩ := F.ex
  refine getmeth_ok I1 ea c hm l ?_
  refine PySem.W.callWith_K (first := [.ref a]) (h₀ := X.base) I.ok.mod.kin hm.kp (thn (ha.run pos pins s1 σ H1 _ I1 q) fun us s2 ⟨vs, H2, I2, r, q2⟩ => ⟨I2.kIn, ?_⟩) hst hpl
  exact run_fnSD (us := .ref a :: us) (vs := .ref a :: vs) F1 hr hb hd (hx σ) I2 (.cons rfl r) (q2 dvs hz)
theorem pe_methD0 {m : Str} {E : L2.St → XK} {o : Expr} {ta : TE} {pl : Sem Bool} (he : PE X o ta) (hr : Room k X.A) (hx : ∀ σ, PassesAt (L2.CX X.prog X.w) X σ (E σ))
    (ht : eval (.Call (.Attribute o m apos) [] [] pos) X.env = (do
      let ov ← eval o X.env
      standAt apos.atName
      let (f, first) ← holding [ov] (getMethod ov m pl)
      callWith pos f first (backTo pos (starEach [] X.env)) (backToKw pos (keywordEach [] X.env)))) :
    PE X (.Call (.Attribute o m apos) [] [] pos) (tMethD X k m E ta tNil) := by
  refine ⟨fun pins s σ H Q I h => ?_⟩
  refine PySem.W.methodCall_KW (pl := pl) (thn (he.run pins s σ H _ I h) fun u s1 ⟨x, H1, I1, rx, a, C, dx, fs, np, cl, dfl, ex, ea, l, ⟨c, g, hm, F⟩, q⟩ => ?_) ht
  subst ex
  obtain rfl : u = Value.ref a := rx
  obtain ⟨fd, ps, dvs, ds, F1, hb, hd, hz⟩ := F.ex
  refine getmeth_ok I1 ea c hm l ?_
  exact PySem.W.callWith_K0 (first := [.ref a]) I1.kIn hm.kp (run_fnSD (us := [.ref a]) (vs := [.ref a]) F1 hr hb hd (hx σ) I1 (.cons rfl .nil) (q dvs hz))
/-- the receiver -/
def evH : Ar → EF
  | .ev f => fun ρ => (f ρ).bind fun x ρ1 => if x.b = true then .stuck else .ok x ρ1
  | .io i => eMv i
abbrev MTab := Nm → Option (Nat × (List RV → RC) × List D)
def recv (ms : MTab) (m : Nm) (x : RV) : Option (Nat × (List RV → RC) × List D) := match x.d with
  | .ins C ns _ => if m ∈ ns then none else ms C
  | _ => none
def callEnd (cl : List RV → RC) (dfl : List D) (as : List Ar) (xs : List RV) : EF := fun ρ1 => match cl (xs ++ dfl.map pureV) with
  | .ok x os => if x.b = true then .stuck else .ok x (giveBack as os ρ1)
  | .exc C ns ys => .exc C ns ys ρ1
  | .stuck => .stuck
def eMeth (ms : MTab) (m : Nm) (h : Ar) (as : List Ar) : EF := match h with
  | .ev f => fun ρ => (evH (.ev f) ρ).bind fun x ρ1 => match recv ms m x with
    | some (_, cl, dfl) => (evA as ρ1).bind fun xs => callEnd cl dfl (.ev f :: as) (x :: xs)
    | none => .stuck
  | .io i => fun ρ => match ρ[i]? with
    | some (some (m0, d0)) => match recv ms m ⟨m0, false, d0⟩ with
      | some (_, cl, dfl) => (evA as ρ).bind fun xs ρ1 => match ρ1[i]? with
        | some (some (m1, d1)) => callEnd cl dfl (.io i :: as) (⟨m1, false, d1⟩ :: xs) (ρ1.set i none)
        | _ => .stuck
      | none => .stuck
    | _ => .stuck
/-- the receiver at hand: its reading -/
inductive Hd (X : Cx) (W : WX) : Expr → Ar → TE → Prop
  | ev {e : Expr} {f : EF} {s : Bool} : SE X W s e f → Hd X W e (.ev f) (tE X.K W s f)
  | io {i : Nat} {x : Str} {p : Pos} : PE X (.Name x p) (tVar i) → Hd X W (.Name x p) (.io i) (tVar i)
theorem Hd.pe {e : Expr} {h : Ar} {t : TE} (hd : Hd X W e h t) : PE X e t := by
  cases hd with
  | ev h => exact h
  | io h => exact h
theorem lookup_notin {m : Nm} (inj : ∀ n : Nm, n.str = m.str → n = m) : ∀ {ns : List Nm} {vs : List V}, m ∉ ns → ((ns.map Nm.str).zip vs).lookup m.str = none
  | [], _, _ => by rw [List.map_nil, List.zip_nil_left]; rfl
  | n :: ns, [], _ => by rw [List.zip_nil_right]; rfl
  | n :: ns, v :: vs, h => by
    rw [List.map_cons, List.zip_cons_cons, List.lookup_cons]
    have hb : (m.str == n.str) = false := beq_eq_false_iff_ne.mpr fun q => h (by rw [inj n q.symm]; exact List.mem_cons_self)
    rw [hb]
    exact lookup_notin inj fun q => h (List.mem_cons_of_mem _ q)
theorem meth_core {ms : MTab} {m : Nm} {o : Expr} {h : Ar} {t : TE} {ta : TA} (inj : ∀ n : Nm, n.str = m.str → n = m) (hd : Hd X W o h t) (M : ∀ C np cl dfl, ms C = some (np, cl, dfl) → MOk X k (ca X.K C) m.str np cl dfl)
    (q : tE X.K W false (eMeth ms m h as) σ H Q) (hta : ∀ {Q2 : List V → Hp → Prop} {H}, tA X.K W false as σ H Q2 → ta σ H Q2) : tMethD X k m.str (WE W) t ta σ H Q := by
  obtain ⟨ρ, es, Fr, Hz, S, r, q⟩ := q
  have go : ∀ {v : V} {x : RV} {ρ1 : Vr} {es1 : List Ent} {Hz1 H1 : Hp}, Slots σ ρ1 es1 → R X.K (⟨v, x.q, x.d⟩ :: (es1 ++ Fr)) Hz1 H1 → (∀ vs2, Lent σ as vs2 → Lent σ (h :: as) (v :: vs2)) →
      RetE X.K Fr σ Hz1 H1 false W (match recv ms m x with
        | some (_, cl, dfl) => (evA as ρ1).bind fun xs => callEnd cl dfl (h :: as) (x :: xs)
        | none => .stuck) Q → ∃ a C dx fs np cl dfl, v = .ref a ∧ H1 a = some (.ins C dx fs) ∧ fs.lookup m.str = none ∧ MOk X k C m.str np cl dfl ∧
        ta σ H1 fun vs H2 => ∀ dvs, (∀ H, RpL X.K H dvs dfl) → spF X.K np cl (v :: (vs ++ dvs)) H2 Q (WE W σ) := by
    intro v x ρ1 es1 Hz1 H1 S1 r1 hv q1
    cases e : recv ms m x with
    | none => rw [e] at q1; exact q1.elim
    | some y =>
      obtain ⟨np, cl, dfl⟩ := y
      rw [e] at q1
      dsimp only at q1
      unfold recv at e
      split at e
      · rename_i C ns ds ed
        split at e
        · cases e
        · rename_i hn
          have hview : View X.K Hz1 H1 v x := r1.head
          obtain ⟨a, dx, vs, A, rfl, ha, _, _⟩ := hview.ins r1.ex ed
          have mo := M C np cl dfl e
          refine ⟨a, _, dx, _, np, cl, dfl, rfl, ha, lookup_notin inj hn, mo, hta ⟨ρ1, es1, ⟨.ref a, x.q, x.d⟩ :: Fr, Hz1, S1, r1.swap3, ?_⟩⟩
          obtain ⟨_, g, _, F⟩ := mo
          cases e2 : evA as ρ1 with
          | stuck => rw [e2] at q1; exact q1.elim
          | exc C ns xs ρ' =>
            rw [e2] at q1
            exact fun dx H' Hz' es' ez a b c => q1 dx H' Hz' es' ez a b c.swap4.tail
          | ok xs ρ2 =>
            rw [e2] at q1
            intro vs2 H2 Hz2 es2 ez2 k2 S2 l2 t2 r2 dvs hz
            refine call_fin (vs := .ref a :: vs2) (xs := x :: xs) (as := h :: as) S2 (by rw [List.length_cons, List.length_cons, l2]) (hv _ t2) ?_ (hz _) F.np (q1.base ez2 fun z => by cases z)
            show R X.K (⟨.ref a, x.q, x.d⟩ :: (zipE vs2 xs ++ (es2 ++ Fr))) Hz2 H2
            refine r2.perm ?_
            rw [← List.append_assoc, ← List.append_assoc]
            exact List.perm_middle
      · cases e
  cases hd with
  | ev hs =>
    rename_i f s
    refine ⟨ρ, es, Fr, Hz, S, r, ?_⟩
    have q' : RetE X.K Fr σ Hz H false W ((f ρ).bind fun x ρ1 => if x.b = true then .stuck else (match recv ms m x with
        | some (_, cl, dfl) => (evA as ρ1).bind fun xs => callEnd cl dfl (.ev f :: as) (x :: xs)
        | none => .stuck)) Q := by
      have q2 : RetE X.K Fr σ Hz H false W (((f ρ).bind fun x ρ1 => if x.b = true then .stuck else .ok x ρ1).bind fun x ρ1 => match recv ms m x with
        | some (_, cl, dfl) => (evA as ρ1).bind fun xs => callEnd cl dfl (.ev f :: as) (x :: xs)
        | none => .stuck) Q := q
      revert q2
      cases f ρ with
      | stuck => exact id
      | exc => exact id
      | ok x ρ1 =>
        by_cases hb : x.b = true
        · intro q; simp only [RE.bind, if_pos hb] at q; exact q.elim
        · intro q; simp only [RE.bind, if_neg hb] at q ⊢; exact q
    cases e : f ρ with
    | stuck => rw [e] at q'; exact q'
    | exc C ns xs ρ' => rw [e] at q'; exact q'
    | ok x ρ1 =>
      rw [e] at q'
      dsimp only [RE.bind] at q'
      intro v H1 Hz1 es1 ez k1 S1 o1
      split at q'
      · exact q'.elim
      · rename_i hb
        exact go S1 (o1.own (by simpa using hb)) (fun _ t => .ev t) (q'.base ez fun z => by cases z)
  | io hp =>
    rename_i i x p
    have q : RetE X.K Fr σ Hz H false W (match ρ[i]? with
      | some (some (m0, d0)) => match recv ms m ⟨m0, false, d0⟩ with
        | some (_, cl, dfl) => (evA as ρ).bind fun xs ρ1 => match ρ1[i]? with
          | some (some (m1, d1)) => callEnd cl dfl (.io i :: as) (⟨m1, false, d1⟩ :: xs) (ρ1.set i none)
          | _ => .stuck
        | none => .stuck
      | _ => .stuck) Q := q
    cases e : ρ[i]? with
    | none => rw [e] at q; exact q.elim
    | some o => cases o with
      | none => rw [e] at q; exact q.elim
      | some md =>
        obtain ⟨m', d⟩ := md
        rw [e] at q
        dsimp only at q
        obtain ⟨v, es', h1, h2, h3⟩ := S.take e
        refine ⟨v, h1, ?_⟩
        cases e1 : recv ms m ⟨m', false, d⟩ with
        | none => rw [e1] at q; exact q.elim
        | some y =>
          obtain ⟨np, cl, dfl⟩ := y
          rw [e1] at q
          dsimp only at q
          unfold recv at e1
          split at e1
          · rename_i C ns ds ed
            split at e1
            · cases e1
            · rename_i hn
              have r0 := r.perm (mid h2)
              have hview : View X.K Hz H v ⟨m', false, d⟩ := r0.head
              obtain ⟨a, dx, vs, A, rfl, ha, _, _⟩ := hview.ins r0.ex ed
              have mo := M C np cl dfl e1
              refine ⟨a, _, dx, _, np, cl, dfl, rfl, ha, lookup_notin inj hn, mo, hta ⟨ρ, es, Fr, Hz, S, r, ?_⟩⟩
              obtain ⟨_, g, _, F⟩ := mo
              cases e2 : evA as ρ with
              | stuck => rw [e2] at q; exact q.elim
              | exc C ns xs ρ' =>
                rw [e2] at q
                exact fun dx H' Hz' es' ez a b c => q dx H' Hz' es' ez a b c
              | ok xs ρ2 =>
                rw [e2] at q
                intro vs2 H2 Hz2 es2 ez2 k2 S2 l2 t2 r2 dvs hz
                dsimp only [RA.bind] at q
                cases e3 : ρ2[i]? with
                | none => rw [e3] at q; exact q.elim
                | some o => cases o with
                  | none => rw [e3] at q; exact q.elim
                  | some md =>
                    obtain ⟨m1, d1⟩ := md
                    rw [e3] at q
                    dsimp only at q
                    obtain ⟨v', es3, g1, g2, g3⟩ := S2.take e3
                    rw [h1] at g1
                    cases g1
                    refine call_fin (vs := .ref a :: vs2) (xs := ⟨m1, false, d1⟩ :: xs) (as := .io i :: as) (np := np) g3 (by rw [List.length_cons, List.length_cons, l2]) (.io h1 t2) ?_ (hz _) F.np (q.base ez2 fun z => by cases z)
                    show R X.K (⟨.ref a, m1, d1⟩ :: (zipE vs2 xs ++ (es3 ++ Fr))) Hz2 H2
                    refine r2.perm ?_
                    refine ((g2.append_right Fr).append_left (zipE vs2 xs)).trans ?_
                    exact List.perm_middle
          · cases e1
theorem se_meth {ms : MTab} (m : Nm) {o : Expr} {h : Ar} {t : TE} {pl : Sem Bool} (inj : ∀ n : Nm, n.str = m.str → n = m) (hd : Hd X W o h t) (M : ∀ C np cl dfl, ms C = some (np, cl, dfl) → MOk X k (ca X.K C) m.str np cl dfl) (hr : Room k X.A) (tk : Takes X W) (ha : SA X W false (a :: es) as)
    (hst : starEach (a :: es) X.env = (false, eval a X.env) :: starEach es X.env := by rfl) (hpl : (backTo pos (starEach es X.env)).any (·.1) = false := by rfl)
    (ht : eval (.Call (.Attribute o m.str apos) (a :: es) [] pos) X.env = (do
      let ov ← eval o X.env
      standAt apos.atName
      let (f, first) ← holding [ov] (getMethod ov m.str pl)
      callWith pos f first (backTo pos (starEach (a :: es) X.env)) (backToKw pos (keywordEach [] X.env))) := by rfl) :
    SE X W false (.Call (.Attribute o m.str apos) (a :: es) [] pos) (eMeth ms m h as) := by
  refine peImp (pe_methD (pl := pl) hd.pe hr (passAt tk) ha hst hpl ht) fun σ H Q q => ?_
  exact meth_core inj hd M q fun h => h
theorem se_meth0 {ms : MTab} (m : Nm) {o : Expr} {h : Ar} {t : TE} {pl : Sem Bool} (inj : ∀ n : Nm, n.str = m.str → n = m) (hd : Hd X W o h t) (M : ∀ C np cl dfl, ms C = some (np, cl, dfl) → MOk X k (ca X.K C) m.str np cl dfl) (hr : Room k X.A) (tk : Takes X W)
    (ht : eval (.Call (.Attribute o m.str apos) [] [] pos) X.env = (do
      let ov ← eval o X.env
      standAt apos.atName
      let (f, first) ← holding [ov] (getMethod ov m.str pl)
      callWith pos f first (backTo pos (starEach [] X.env)) (backToKw pos (keywordEach [] X.env))) := by rfl) :
    SE X W false (.Call (.Attribute o m.str apos) [] [] pos) (eMeth ms m h []) := by
  refine peImp (pe_methD0 (pl := pl) hd.pe hr (passAt tk) ht) fun σ H Q q => ?_
  refine meth_core (as := []) inj hd M q fun {Q2 H} h => ?_
  obtain ⟨ρ, es, Fr, Hz, S, r, q⟩ := h
  exact q [] H Hz es (Ex.refl _) (fun z => by cases z) S rfl .nil r
end
end Pd
end
section
/-! Pd: new instances; a law's defs as a whole. -/
namespace Pd
open PySem L2 PyProof.Rows PySem.Spec
section
variable {X : Cx} {W : WX} {s sa sb : Bool} {p pos apos : Pos} {K : PySem.W.Frag} {σ : L2.St} {H Hz : Hp} {Q : VK} {a b : Expr} {fa : EF} {k np : Nat} {f : Addr} {cl : List RV → RC} {dfl : List D} {es : List Expr} {as : List Ar}
/-- the callee runs, what it raises wished for at the slots -/
theorem run_makeS {C : Addr} {CX : CXT} {fd : FuncData} {ps : List Str} {sp : Sp} {dvs : List V} {ds : List Value} {E : XK} {pins : List (Addr × Obj)} {σ : L2.St} {H : Hp} {s : Shared} {Q : VK} {us : List Value} {vs : List V} (M : Mk X.K C f) (F : FnOk X.prog X.w X.K X.mg X.base CX k f fd ps sp) (hr : Room (k + 1) X.A) (hb : Binds X.K fd ps ds) (hd : Vals dvs ds)
    (hx : PassesAt CX X σ E) (I : Inv X pins σ H s) (r : Vals vs us)
    (h : ∀ x dx, H x = none → H dx = none → dx ≠ x → sp (.ref x :: (vs ++ dvs)) (upd (upd H dx (.own x)) x (.ins C dx [])) (fun v H2 => v = .non ∧ Q (.ref x) H2) E) :
    wpAny (model X.prog X.w) X.A (call (.ref C) us) (EP X pins σ Q) X.xe s := by
  have hq := h (s.heap.objs.size + 1) s.heap.objs.size (I.hok.fresh (Nat.le_succ _)) (I.hok.fresh (Nat.le_refl _)) (Nat.ne_of_lt (Nat.lt_succ_self _))
  have I2 := Inv.made (C := C) I
  have r2 : Vals (V.ref (s.heap.objs.size + 1) :: (vs ++ dvs)) (Value.ref (s.heap.objs.size + 1) :: (us ++ ds)) := .cons rfl (r.append hd)
  have hl : (Value.ref (s.heap.objs.size + 1) :: us ++ ds).length = ps.length := by
    have e := r2.length
    rw [F.len _ _ _ _ hq] at e
    exact e.symm
  refine wpAny_call (make_map (f := f) I.kIn M.makes M.init (beq_iff_eq.mp M.fn) (codeAny_mono (F.run _ X.stack _ _ ⟨Value.ref (s.heap.objs.size + 1) :: us, []⟩ (Value.ref (s.heap.objs.size + 1) :: (us ++ ds)) _ _ E (hr.make C us [])
    (I2.env0.make C us []) (hb _ (Value.ref (s.heap.objs.size + 1) :: us) I2.kIn hl) r2 hq) fun r s' hq' => ?_))
  cases r with
  | error e => exact hx pins _ _ e s' I2 hq'
  | ok fl =>
    cases fl with
    | ret u =>
      obtain ⟨v, H', I3, rv, ev, q3⟩ := I2.after hq'
      subst ev
      exact ⟨rv, ⟨V.ref (s.heap.objs.size + 1), H', I3, rfl, q3⟩⟩
    | next => exact False.elim hq'
    | brk => exact False.elim hq'
    | cont => exact False.elim hq'
def tMakeS (C : Addr) (sp : Sp) (dvs : List V) (E : L2.St → XK) (t : TA) : TE := fun σ H Q => t σ H fun vs H1 => ∀ x dx, H1 x = none → H1 dx = none → dx ≠ x →
  sp (.ref x :: (vs ++ dvs)) (upd (upd H1 dx (.own x)) x (.ins C dx [])) (fun v H2 => v = .non ∧ Q (.ref x) H2) (E σ)
theorem pe_makeS {C : Addr} {x : Str} {CX : CXT} {fd : FuncData} {ps : List Str} {sp : Sp} {dvs : List V} {ds : List Value} {E : L2.St → XK} {t : TA} (M : Mk X.K C f) (F : FnOk X.prog X.w X.K X.mg X.base CX k f fd ps sp) (hr : Room (k + 1) X.A) (hg : Gl X x) (hm : X.mg x = some (.ref C)) (hb : Binds X.K fd ps ds) (hd : Vals dvs ds) (hx : ∀ σ, PassesAt CX X σ (E σ))
    (ha : PA X (a :: es) t) (hdb : (x == ("__debug__" : Str)) = false := by decide) (he : starEach (a :: es) X.env = (false, eval a X.env) :: starEach es X.env := by rfl) (hpl : (backTo pos (starEach es X.env)).any (·.1) = false := by rfl) :
    PE X (.Call (.Name x p) (a :: es) [] pos) (tMakeS C sp dvs E t) := by
  refine ⟨fun pins s σ H Q I h => ?_⟩
  refine wpAny_Call_Name_kw (ld_glob I hg hm ?_ hdb)
  refine PySem.W.callWith_K (h₀ := X.base) I.ok.mod.kin M.kp (thn (ha.run pos pins s σ H _ I h) fun us s1 ⟨vs, H1, I1, r, q⟩ => ⟨I1.kIn, ?_⟩) he hpl
  exact run_makeS M F hr hb hd (hx σ) I1 r q
theorem pe_makeS0 {C : Addr} {x : Str} {CX : CXT} {fd : FuncData} {ps : List Str} {sp : Sp} {dvs : List V} {ds : List Value} {E : L2.St → XK} (M : Mk X.K C f) (F : FnOk X.prog X.w X.K X.mg X.base CX k f fd ps sp) (hr : Room (k + 1) X.A) (hg : Gl X x) (hm : X.mg x = some (.ref C)) (hb : Binds X.K fd ps ds) (hd : Vals dvs ds) (hx : ∀ σ, PassesAt CX X σ (E σ))
    (hdb : (x == ("__debug__" : Str)) = false := by decide) : PE X (.Call (.Name x p) [] [] pos) (tMakeS C sp dvs E tNil) := by
  refine ⟨fun pins s σ H Q I h => ?_⟩
  refine wpAny_Call_Name_kw (ld_glob I hg hm ?_ hdb)
  exact PySem.W.callWith_K0 I.kIn M.kp (run_makeS (us := []) M F hr hb hd (hx σ) I .nil h)
/-- what __init__ gives back -/
def made (y : RV) (os : List Slot) (k : Nat → D → List Slot → RE) : RE := match os with
  | some (m, d) :: os => if y.b = false ∧ isNon y.d = true then k m d os else .stuck
  | _ => .stuck
/-- C(..): m levels of the new instance are owned -/
def eMake (C : Nm) (m : Nat) (cl : List RV → RC) (dfl : List D) (as : List Ar) : EF := fun ρ => (evA as ρ).bind fun xs ρ1 => match cl (⟨m + 1, false, .ins C [] []⟩ :: (xs ++ dfl.map pureV)) with
  | .ok y os => made y os fun m' d os' => .ok ⟨m', false, d⟩ (giveBack as os' ρ1)
  | .exc C ns ys => .exc C ns ys ρ1
  | .stuck => .stuck
theorem outE_append {ws : List V} : ∀ {vs : List V} {os : List Slot}, ∃ more, outE (vs ++ ws) os = outE vs os ++ more
  | [], os => ⟨outE ws os, by cases os <;> rfl⟩
  | v :: vs, [] => ⟨[], rfl⟩
  | v :: vs, o :: os => by
    obtain ⟨more, e⟩ := outE_append (ws := ws) (vs := vs) (os := os)
    cases o with
    | none => exact ⟨more, e⟩
    | some md => exact ⟨more, congrArg (List.cons _) e⟩
theorem back_end {e : Ent} {vs dvs : List V} {os : List Slot} {ρ1 : Vr} {es1 Fr : List Ent} (S : Slots σ ρ1 es1) (t : Lent σ as vs) (r : R K (e :: (outE (vs ++ dvs) os ++ (es1 ++ Fr))) Hz H) : ∃ es', Slots σ (giveBack as os ρ1) es' ∧ R K (e :: (es' ++ Fr)) Hz H := by
  obtain ⟨more, em⟩ := outE_append (ws := dvs) (vs := vs) (os := os)
  rw [em, List.append_assoc] at r
  have r2 : R K (outE vs os ++ (es1 ++ (e :: Fr))) Hz H := by
    have r3 : R K (more ++ (e :: (outE vs os ++ (es1 ++ Fr)))) Hz H := by
      refine r.perm ?_
      refine List.Perm.trans ?_ List.perm_middle.symm
      refine List.Perm.cons _ ?_
      rw [← List.append_assoc, ← List.append_assoc more]
      exact List.perm_append_comm.append_right _
    refine r3.right.perm ?_
    rw [← List.append_assoc, ← List.append_assoc]
    exact List.perm_middle.symm
  obtain ⟨es', S', r4⟩ := back_core t S r2
  exact ⟨es', S', r4.swap4⟩
theorem make_fin {C : Nm} {m : Nat} {vs dvs : List V} {xs : List RV} {ρ1 : Vr} {es1 Fr : List Ent} (S : Slots σ ρ1 es1) (l : vs.length = xs.length) (t : Lent σ as vs) (r : R K (zipE vs xs ++ (es1 ++ Fr)) Hz H)
    (hd : RpL K Hz dvs dfl) (hnp : ∀ ys, cl ys ≠ .stuck → ys.length = np) (q : RetE K Fr σ Hz H false W (match cl (⟨m + 1, false, .ins C [] []⟩ :: (xs ++ dfl.map pureV)) with
      | .ok y os => made y os fun m' d os' => .ok ⟨m', false, d⟩ (giveBack as os' ρ1)
      | .exc C ns ys => .exc C ns ys ρ1
      | .stuck => .stuck) Q) : ∀ x dx, H x = none → H dx = none → dx ≠ x → spF K np cl (.ref x :: (vs ++ dvs)) (upd (upd H dx (.own x)) x (.ins (ca K C) dx [])) (fun v H2 => v = .non ∧ Q (.ref x) H2) (WE W σ) := by
  intro x dx hx hdx ne
  have hns : cl (⟨m + 1, false, .ins C [] []⟩ :: (xs ++ dfl.map pureV)) ≠ .stuck := fun e => by rw [e] at q; exact q.elim
  have hl : (V.ref x :: (vs ++ dvs)).length = (⟨m + 1, false, .ins C [] []⟩ :: (xs ++ dfl.map pureV)).length := by
    rw [List.length_cons, List.length_cons, List.length_append, List.length_append, List.length_map, l, hd.length]
  refine ⟨⟨m + 1, false, .ins C [] []⟩ :: (xs ++ dfl.map pureV), es1 ++ Fr, Hz, by rw [hl]; exact hnp _ hns, hl, ?_, ?_⟩
  · show R K (⟨.ref x, m + 1, .ins C [] []⟩ :: (zipE (vs ++ dvs) (xs ++ dfl.map pureV) ++ (es1 ++ Fr))) Hz _
    have r1 : R K (zipE (vs ++ dvs) (xs ++ dfl.map pureV) ++ (es1 ++ Fr)) Hz H := by
      rw [zipE_append l, List.append_assoc]
      have r2 : R K (zipE dvs (dfl.map pureV) ++ (zipE vs xs ++ (es1 ++ Fr))) Hz H := r.putL hd
      refine r2.perm ?_
      rw [← List.append_assoc (zipE dvs _), ← List.append_assoc (zipE vs xs)]
      exact List.perm_append_comm.append_right _
    have r3 := r1.ext (Ex.new (o := .own x) hdx)
    have hx2 : upd H dx (.own x) x = none := by rw [upd_ne ne.symm]; exact hx
    refine R.alloc (fs := []) (m := m) r3 hx2 fun A hA => ?_
    cases hA
    exact .ins (ns := []) (vs := []) (dx := dx) upd_same rfl .nil
  · cases e : cl (⟨m + 1, false, .ins C [] []⟩ :: (xs ++ dfl.map pureV)) with
    | stuck => exact absurd e hns
    | exc C' ns ys =>
      rw [e] at q
      exact fun dx' H' Hz' ez ea r' => q dx' H' Hz' es1 ez ea S r'
    | ok y os =>
      rw [e] at q
      dsimp only at q ⊢
      unfold made at q
      split at q
      · rename_i m' d os'
        split at q
        · rename_i c
          obtain ⟨c1, c2⟩ := c
          refine ⟨c1, fun v H' Hz' ez r' => ?_⟩
          have ev : v = .non := by
            have := R.imm (by rw [isNon_eq c2]; rfl) r'
            rw [isNon_eq c2] at this
            cases this; rfl
          refine ⟨ev, ?_⟩
          obtain ⟨es', S', r4⟩ := back_end (e := ⟨.ref x, m', d⟩) S t r'.tail
          exact q (.ref x) H' Hz' es' ez (fun z => by cases z) S' (.of rfl r4)
        · exact q.elim
      · exact q.elim
theorem se_make {x : Str} (C : Nm) (m : Nat) (M : Mk X.K (ca X.K C) f) (F : Callee X k f np cl dfl) (hm : X.mg x = some (.ref (ca X.K C))) (hr : Room (k + 1) X.A) (tk : Takes X W) (ha : SA X W false (a :: es) as) (hg : Gl X x := by rfl) (hdb : (x == ("__debug__" : Str)) = false := by decide)
    (he : starEach (a :: es) X.env = (false, eval a X.env) :: starEach es X.env := by rfl) (hpl : (backTo pos (starEach es X.env)).any (·.1) = false := by rfl) : SE X W false (.Call (.Name x p) (a :: es) [] pos) (eMake C m cl dfl as) := by
  obtain ⟨fd, ps, dvs, ds, F1, hb, hd, hz⟩ := F.ex
  refine peImp (pe_makeS M F1 hr hg hm hb hd (passAt tk) ha hdb he hpl) fun σ H Q q => ?_
  exact oneA q id fun vs xs ρ1 es1 Fr Hz1 H1 S l t r q => make_fin S l t r (hz _) F.np q
theorem se_make0 {x : Str} (C : Nm) (m : Nat) (M : Mk X.K (ca X.K C) f) (F : Callee X k f np cl dfl) (hm : X.mg x = some (.ref (ca X.K C))) (hr : Room (k + 1) X.A) (tk : Takes X W) (hg : Gl X x := by rfl) (hdb : (x == ("__debug__" : Str)) = false := by decide) : SE X W false (.Call (.Name x p) [] [] pos) (eMake C m cl dfl []) := by
  obtain ⟨fd, ps, dvs, ds, F1, hb, hd, hz⟩ := F.ex
  refine peImp (pe_makeS0 M F1 hr hg hm hb hd (passAt tk) hdb) fun σ H Q q => ?_
  obtain ⟨ρ, es, Fr, Hz, S, r, q⟩ := q
  exact make_fin (vs := []) (xs := []) (as := []) S rfl .nil r (hz _) F.np q
/-- C.m(..), the def read off the class -/
structure UOk (K : PySem.W.Frag) (C g : Addr) (m : Str) : Prop where
  ga : PySem.W.specialIn K (.ref C) "__getattribute__" = some (some (.builtin "type.__getattribute__"))
  rd : ∃ mc, PySem.W.readsIn K C mc = true ∧ PySem.W.findCls K (.ref C) mc m = some (.val (.ref g))
  kp : PySem.W.keepIn K (.ref g) = true
theorem se_umeth {x m : Str} {C g : Addr} {pl : Sem Bool} (F : Callee X k g np cl dfl) (hu : UOk X.K C g m) (hm : X.mg x = some (.ref C)) (hr : Room k X.A) (tk : Takes X W) (ha : SA X W false (a :: es) as) (hg : Gl X x := by rfl) (hdb : (x == ("__debug__" : Str)) = false := by decide)
    (hst : starEach (a :: es) X.env = (false, eval a X.env) :: starEach es X.env := by rfl) (hpl : (backTo pos (starEach es X.env)).any (·.1) = false := by rfl)
    (ht : eval (.Call (.Attribute (.Name x p) m apos) (a :: es) [] pos) X.env = (do
      let ov ← eval (.Name x p) X.env
      standAt apos.atName
      let (f, first) ← holding [ov] (getMethod ov m pl)
      callWith pos f first (backTo pos (starEach (a :: es) X.env)) (backToKw pos (keywordEach [] X.env))) := by rfl) : SE X W false (.Call (.Attribute (.Name x p) m apos) (a :: es) [] pos) (eCall cl dfl as) := by
  obtain ⟨fd, ps, dvs, ds, F1, hb, hd, hz⟩ := F.ex
  obtain ⟨mc, rd, at_⟩ := hu.rd
  have pe : PE X (.Call (.Attribute (.Name x p) m apos) (a :: es) [] pos) (tCallSD (spF X.K np cl) dvs (WE W) (tA X.K W false as)) := by
    refine ⟨fun pins s σ H Q I h => ?_⟩
    refine PySem.W.methodCall_KW (pl := pl) (ld_glob I hg hm ?_ hdb) ht
    refine PySem.W.method_cls I.kIn hu.ga (PySem.W.cls_value I.kIn rd at_ rfl ?_)
    refine PySem.W.callWith_K (first := []) (h₀ := X.base) I.ok.mod.kin hu.kp (thn (ha.run pos pins _ σ H _ (I.tok _) h) fun us s1 ⟨vs, H1, I1, r, q⟩ => ⟨I1.kIn, ?_⟩) hst hpl
    exact run_fnSD F1 hr hb hd (passAt tk σ) I1 r q
  refine peImp pe fun σ H Q q => ?_
  exact oneA q id fun vs xs ρ1 es1 Fr Hz1 H1 S l t r q => call_fin S l t r (hz _) F.np q
end
end Pd
end
section
/-! Pd: built-in functions. -/
namespace Pd
open PySem L2 PyProof.Rows PySem.Spec
/-- one-place functions on values -/
abbrev Op1 := RV → Option RV
def e1 (op : Op1) (fa : EF) : EF := fun ρ => (fa ρ).bind fun x ρ1 => opE (op x) ρ1
def Ok1 (K : PySem.W.Frag) (r : List V → Hp → VK → Prop) (op : Op1) : Prop := ∀ (v : V) (x z : RV) (es : List Ent) (Hz H : Hp) (Q : VK), R K es Hz H → View K Hz H v x → op x = some z →
  (∀ u H' Hz', Ex Hz Hz' → Ex H H' → RVok K Hz' H' u z es → Q u H') → r [v] H Q
def Ok2 (K : PySem.W.Frag) (r : List V → Hp → VK → Prop) (op : Op2) : Prop := ∀ (v w : V) (x y z : RV) (es : List Ent) (Hz H : Hp) (Q : VK), R K es Hz H → View K Hz H v x → View K Hz H w y → op x y = some z →
  (∀ u H' Hz', Ex Hz Hz' → Ex H H' → RVok K Hz' H' u z es → Q u H') → r [v, w] H Q
section
variable {X : Cx} {W : WX} {s sa sb : Bool} {p pos apos : Pos} {K : PySem.W.Frag} {σ : L2.St} {H Hz : Hp} {Q : VK} {a b e : Expr} {fa fb : EF} {r : List V → Hp → VK → Prop} {op : Op1} {op2 : Op2} {id : String} {x : Str}
theorem b1_core (ok : Ok1 K r op) (q : tE K W s (e1 op fa) σ H Q) (hs : s = true → sa = true) : tCB r (tCons (tE K W sa fa) tNil) σ H Q := by
  refine one' (fa := fa) q hs fun v x ρ1 es1 Fr Hz1 H1 S o q => ?_
  obtain ⟨z, hz⟩ := opE_some q
  exact ok v x z _ Hz1 H1 Q o.rest o.view hz (fin2 hz (Ex.refl _) (fun _ => Ex.refl _) S q)
theorem b2_core (ok : Ok2 K r op2) (q : tE K W s (e2 sb op2 fa fb) σ H Q) (hs : s = true → sa = true ∧ sb = true) : tCB r (tCons (tE K W sa fa) (tCons (tE K W sb fb) tNil)) σ H Q := by
  refine two q hs fun v w x y ρ2 es2 Fr Hz2 H2 Hz0 S2 r2 v1 v2 ez k q2 => ?_
  obtain ⟨z, hz⟩ := opE_some q2
  exact ok v w x y z _ Hz2 H2 Q r2 v1 v2 hz (fin2 hz ez k S2 q2)
theorem se_b1 (hc : CallR X (.builtin id) r) (ok : Ok1 X.K r op) (ha : SE X W sa e fa) (hm : X.mg x = none) (hv : bootBuiltins x = some (.builtin id)) (hs : s = true → sa = true := by first | exact fun _ => rfl | (intro z; cases z)) (hg : Gl X x := by rfl) (hn : x ≠ "__name__" := by decide) (hdb : (x == ("__debug__" : Str)) = false := by decide)
    (hst : starEach [e] X.env = (false, eval e X.env) :: starEach [] X.env := by rfl) : SE X W s (.Call (.Name x p) [e] [] pos) (e1 op fa) :=
  peImp (pe_callB hc hg hm hv (pa_cons ha pa_nil hst) hn hdb hst rfl) fun σ H Q q => b1_core ok q hs
theorem se_t1 (hc : CallR X (.type id) r) (ok : Ok1 X.K r op) (ha : SE X W sa e fa) (hm : X.mg x = none) (hv : bootBuiltins x = some (.type id)) (hs : s = true → sa = true := by first | exact fun _ => rfl | (intro z; cases z)) (hg : Gl X x := by rfl) (hn : x ≠ "__name__" := by decide) (hdb : (x == ("__debug__" : Str)) = false := by decide)
    (hst : starEach [e] X.env = (false, eval e X.env) :: starEach [] X.env := by rfl) : SE X W s (.Call (.Name x p) [e] [] pos) (e1 op fa) :=
  peImp (pe_callTy hc hg hm hv (pa_cons ha pa_nil hst) hn hdb hst rfl) fun σ H Q q => b1_core ok q hs
theorem se_b2 (hc : CallR X (.builtin id) r) (ok : Ok2 X.K r op2) (ha : SE X W sa a fa) (hb : SE X W sb b fb) (hm : X.mg x = none) (hv : bootBuiltins x = some (.builtin id)) (hs : s = true → sa = true ∧ sb = true := by first | exact fun _ => ⟨rfl, rfl⟩ | (intro z; cases z)) (hg : Gl X x := by rfl) (hn : x ≠ "__name__" := by decide) (hdb : (x == ("__debug__" : Str)) = false := by decide)
    (hst : starEach [a, b] X.env = (false, eval a X.env) :: starEach [b] X.env := by rfl) (hst2 : starEach [b] X.env = (false, eval b X.env) :: starEach [] X.env := by rfl) (hpl : (backTo pos (starEach [b] X.env)).any (·.1) = false := by rfl) : SE X W s (.Call (.Name x p) [a, b] [] pos) (e2 sb op2 fa fb) :=
  peImp (pe_callB hc hg hm hv (pa_cons ha (pa_cons hb pa_nil hst2) hst) hn hdb hst hpl) fun σ H Q q => b2_core ok q hs

/-! ### lists of whole numbers, of truths -/
def dInts : List D → Option (List Int)
  | [] => some []
  | .int i :: ds => (dInts ds).map (i :: ·)
  | _ => none
def bls : List D → Option (List Bool)
  | [] => some []
  | .bl i :: ds => (bls ds).map (i :: ·)
  | _ => none
theorem ints_ok {m : Nat} : ∀ {vs : List V} {ds : List D} {A : List Addr} {ns : List Int}, OwnL K Hz H m vs ds A → dInts ds = some ns → vs = ns.map V.int
  | _, _, _, ns, .nil, e => by simp [dInts] at e; subst e; rfl
  | _, _, _, ns, .cons (d := d) h r, e => by
    cases d <;> simp [dInts] at e
    obtain ⟨ms, h1, rfl⟩ := e
    have hv := (h.imm rfl).2
    cases hv
    rw [List.map_cons, ints_ok r h1]
theorem bls_ok {m : Nat} : ∀ {vs : List V} {ds : List D} {A : List Addr} {ns : List Bool}, OwnL K Hz H m vs ds A → bls ds = some ns → vs = ns.map V.bl
  | _, _, _, ns, .nil, e => by simp [bls] at e; subst e; rfl
  | _, _, _, ns, .cons (d := d) h r, e => by
    cases d <;> simp [bls] at e
    obtain ⟨ms, h1, rfl⟩ := e
    have hv := (h.imm rfl).2
    cases hv
    rw [List.map_cons, bls_ok r h1]
@[simp] theorem ints_map (ns : List Int) : dInts (ns.map .int) = some ns := by
  induction ns with
  | nil => rfl
  | cons n ns ih => simp [dInts, ih]
@[simp] theorem bls_map (ns : List Bool) : bls (ns.map .bl) = some ns := by
  induction ns with
  | nil => rfl
  | cons n ns ih => simp [bls, ih]
/-- what is a list -/
def lsOf : D → Option (List D)
  | .lst ds => some ds
  | .frl ds => some ds
  | _ => none
theorem ls_ok {v : V} {x : RV} {ds : List D} (ex : Ex Hz H) (h : View K Hz H v x) (e : lsOf x.d = some ds) : ∃ q vs A m, v = .ref q ∧ SqL K H q vs ∧ OwnL K Hz H m vs ds A := by
  unfold lsOf at e
  split at e
  · rename_i ds' e1
    cases e
    obtain ⟨q, vs, A, rfl, h1, ow⟩ := h.lst ex e1
    exact ⟨q, vs, A, _, rfl, .of h1, ow⟩
  · rename_i ds' e1
    cases e
    obtain ⟨q, vs, rfl, h1, l⟩ := h.frl e1
    exact ⟨q, vs, [], 0, rfl, ex.sql h1, OwnL.of_zero 0 l⟩
  · cases e
def oLen : Op1 := fun x => match x.d with
  | .lst ds => some (pureV (.int ds.length))
  | .frl ds => some (pureV (.int ds.length))
  | .tup ds => some (pureV (.int ds.length))
  | .dk ks _ => some (pureV (.int ks.length))
  | .dt ks _ => some (pureV (.int ks.length))
  | .str z => if z.length ≤ BIG then some (pureV (.int z.length)) else none
  | _ => none
def rLenA (K : PySem.W.Frag) : List V → Hp → VK → Prop := fun xs H Q => (∃ x n, xs = [x] ∧ LenV K x H n ∧ Q (.int n) H) ∨ (∃ a kvs, xs = [V.ref a] ∧ H a = some (.dK kvs) ∧ Q (.int kvs.length) H) ∨ rLenT xs H Q
theorem call_lenA : CallR X (.builtin "len") (rLenA X.K) := call_len.or (call_lenD.or call_len_dT)
theorem ok_len : Ok1 K (rLenA K) oLen := by
  intro v x z es Hz H Q r hx hz q
  unfold oLen at hz
  split at hz
  · rename_i ds e
    cases hz
    obtain ⟨a, vs, A, rfl, h1, ow⟩ := hx.lst r.ex e
    refine .inl ⟨_, ds.length, rfl, .inl ⟨vs, .of h1, ow.length.symm⟩, q _ H Hz (Ex.refl _) (Ex.refl _) (.pure (.int _) r)⟩
  · rename_i ds e
    cases hz
    obtain ⟨a, vs, rfl, h1, l⟩ := hx.frl e
    refine .inl ⟨_, ds.length, rfl, .inl ⟨vs, r.ex.sql h1, l.length.symm⟩, q _ H Hz (Ex.refl _) (Ex.refl _) (.pure (.int _) r)⟩
  · rename_i ds e
    cases hz
    obtain ⟨a, vs, rfl, h1, l⟩ := hx.tup e
    refine .inl ⟨_, ds.length, rfl, .inr ⟨vs, .of (r.ex _ _ h1), l.length.symm⟩, q _ H Hz (Ex.refl _) (Ex.refl _) (.pure (.int _) r)⟩
  · rename_i ks ds e
    cases hz
    obtain ⟨a, vs, A, rfl, h1, l, ow⟩ := hx.dk r.ex e
    refine .inr (.inl ⟨a, _, rfl, h1, ?_⟩)
    rw [List.length_zip, ← l, Nat.min_self]
    exact q _ H Hz (Ex.refl _) (Ex.refl _) (.pure (.int _) r)
  · rename_i ks ds e
    cases hz
    obtain ⟨a, vs, A, rfl, h1, l, ow⟩ := hx.dt r.ex e
    refine .inr (.inr ⟨a, _, rfl, h1, ?_⟩)
    rw [List.length_zip, ← l, Nat.min_self]
    exact q _ H Hz (Ex.refl _) (Ex.refl _) (.pure (.int _) r)
  · rename_i t e
    split at hz
    · rename_i c
      cases hz
      refine .inl ⟨_, t.length, rfl, ?_, q _ H Hz (Ex.refl _) (Ex.refl _) (.pure (.int _) r)⟩
      rw [hx.str e]
      exact ⟨big_line c, rfl⟩
    · cases hz
  · cases hz
def oAbs : Op1 := fun x => match x.d with
  | .int i => some (pureV (.int (if i < 0 then -i else i)))
  | _ => none
theorem ok_abs : Ok1 K (fun xs H Q => ∃ i, xs = [.int i] ∧ Q (.int (if i < 0 then -i else i)) H) oAbs := by
  intro v x z es Hz H Q r hx hz q
  unfold oAbs at hz
  split at hz
  · rename_i i e
    cases hz
    exact ⟨i, by rw [hx.int e], q _ H Hz (Ex.refl _) (Ex.refl _) (.pure (.int _) r)⟩
  · cases hz
def oSum : Op1 := fun x => (lsOf x.d).bind fun ds => (dInts ds).map fun ns => pureV (.int ns.sum)
theorem ok_sum : Ok1 K (rSum K) oSum := by
  intro v x z es Hz H Q r hx hz q
  obtain ⟨ds, e1, hz⟩ := Option.bind_eq_some_iff.mp hz
  obtain ⟨ns, e2, rfl⟩ := Option.map_eq_some_iff.mp hz
  obtain ⟨a, vs, A, m, rfl, h1, ow⟩ := ls_ok r.ex hx e1
  exact ⟨a, ns, rfl, by rw [← ints_ok ow e2]; exact h1, q _ H Hz (Ex.refl _) (Ex.refl _) (.pure (.int _) r)⟩
def oMax : Op1 := fun x => (lsOf x.d).bind fun ds => (dInts ds).bind fun ns => ns.max?.map fun m => pureV (.int m)
def oMin : Op1 := fun x => (lsOf x.d).bind fun ds => (dInts ds).bind fun ns => ns.min?.map fun m => pureV (.int m)
theorem ok_max : Ok1 K (rMax K) oMax := by
  intro v x z es Hz H Q r hx hz q
  obtain ⟨ds, e1, hz⟩ := Option.bind_eq_some_iff.mp hz
  obtain ⟨ns, e2, hz⟩ := Option.bind_eq_some_iff.mp hz
  obtain ⟨m, e3, rfl⟩ := Option.map_eq_some_iff.mp hz
  obtain ⟨a, vs, A, j, rfl, h1, ow⟩ := ls_ok r.ex hx e1
  obtain ⟨k1, k2⟩ := List.max?_eq_some_iff.mp e3
  refine ⟨a, ns, rfl, by rw [← ints_ok ow e2]; exact h1, List.length_pos_of_mem k1, fun m' h2 h3 => ?_⟩
  have : m' = m := Int.le_antisymm (k2 _ h2) (h3 _ k1)
  subst this
  exact q _ H Hz (Ex.refl _) (Ex.refl _) (.pure (.int _) r)
theorem ok_min : Ok1 K (rMin K) oMin := by
  intro v x z es Hz H Q r hx hz q
  obtain ⟨ds, e1, hz⟩ := Option.bind_eq_some_iff.mp hz
  obtain ⟨ns, e2, hz⟩ := Option.bind_eq_some_iff.mp hz
  obtain ⟨m, e3, rfl⟩ := Option.map_eq_some_iff.mp hz
  obtain ⟨a, vs, A, j, rfl, h1, ow⟩ := ls_ok r.ex hx e1
  obtain ⟨k1, k2⟩ := List.min?_eq_some_iff.mp e3
  refine ⟨a, ns, rfl, by rw [← ints_ok ow e2]; exact h1, List.length_pos_of_mem k1, fun m' h2 h3 => ?_⟩
  have : m' = m := Int.le_antisymm (h3 _ k1) (k2 _ h2)
  subst this
  exact q _ H Hz (Ex.refl _) (Ex.refl _) (.pure (.int _) r)
def oMax2 : Op2 := fun x y => match x.d, y.d with
  | .int i, .int j => some (pureV (.int (if j > i then j else i)))
  | _, _ => none
def oMin2 : Op2 := fun x y => match x.d, y.d with
  | .int i, .int j => some (pureV (.int (if j < i then j else i)))
  | _, _ => none
theorem ok_max2 : Ok2 K (fun xs H Q => ∃ i j, xs = [.int i, .int j] ∧ Q (.int (if j > i then j else i)) H) oMax2 := by
  intro v w x y z es Hz H Q r hx hy hz q
  unfold oMax2 at hz
  split at hz
  · rename_i i j e1 e2
    cases hz
    exact ⟨i, j, by rw [hx.int e1, hy.int e2], q _ H Hz (Ex.refl _) (Ex.refl _) (.pure (.int _) r)⟩
  · cases hz
theorem ok_min2 : Ok2 K (fun xs H Q => ∃ i j, xs = [.int i, .int j] ∧ Q (.int (if j < i then j else i)) H) oMin2 := by
  intro v w x y z es Hz H Q r hx hy hz q
  unfold oMin2 at hz
  split at hz
  · rename_i i j e1 e2
    cases hz
    exact ⟨i, j, by rw [hx.int e1, hy.int e2], q _ H Hz (Ex.refl _) (Ex.refl _) (.pure (.int _) r)⟩
  · cases hz
def oAny : Op1 := fun x => (lsOf x.d).bind fun ds => (bls ds).map fun ns => pureV (.bl (ns.any _root_.id))
def oAll : Op1 := fun x => (lsOf x.d).bind fun ds => (bls ds).map fun ns => pureV (.bl (ns.all _root_.id))
theorem ok_any : Ok1 K (rAny K) oAny := by
  intro v x z es Hz H Q r hx hz q
  obtain ⟨ds, e1, hz⟩ := Option.bind_eq_some_iff.mp hz
  obtain ⟨ns, e2, rfl⟩ := Option.map_eq_some_iff.mp hz
  obtain ⟨a, vs, A, m, rfl, h1, ow⟩ := ls_ok r.ex hx e1
  exact ⟨a, ns, rfl, by rw [← bls_ok ow e2]; exact h1, q _ H Hz (Ex.refl _) (Ex.refl _) (.pure (.bl _) r)⟩
theorem ok_all : Ok1 K (rAll K) oAll := by
  intro v x z es Hz H Q r hx hz q
  obtain ⟨ds, e1, hz⟩ := Option.bind_eq_some_iff.mp hz
  obtain ⟨ns, e2, rfl⟩ := Option.map_eq_some_iff.mp hz
  obtain ⟨a, vs, A, m, rfl, h1, ow⟩ := ls_ok r.ex hx e1
  exact ⟨a, ns, rfl, by rw [← bls_ok ow e2]; exact h1, q _ H Hz (Ex.refl _) (Ex.refl _) (.pure (.bl _) r)⟩
/-- the items in order -/
def sortI (ns : List Int) : List Int := ns.mergeSort (fun a b => decide (a ≤ b))
theorem sortI_perm (ns : List Int) : (sortI ns).Perm ns := List.mergeSort_perm _ _
theorem sortI_sorted (ns : List Int) : (sortI ns).Pairwise (· ≤ ·) := by
  have := List.pairwise_mergeSort (le := fun a b : Int => decide (a ≤ b)) (fun a b c h1 h2 => by simp at *; omega) (fun a b => by simp; omega) ns
  exact this.imp fun h => by simpa using h
theorem sortI_uniq {ns ns' : List Int} (p : ns'.Perm ns) (h : ns'.Pairwise (· ≤ ·)) : ns' = sortI ns :=
  List.Perm.eq_of_pairwise (fun a b _ _ h1 h2 => Int.le_antisymm h1 h2) h (sortI_sorted ns) (p.trans (sortI_perm ns).symm)
def oSorted : Op1 := fun x => (lsOf x.d).bind fun ds => (dInts ds).map fun ns => ⟨1, false, .lst ((sortI ns).map .int)⟩
theorem rpl_ints : ∀ ns : List Int, RpL K Hz (ns.map V.int) (ns.map D.int)
  | [] => .nil
  | n :: ns => .cons (.int n) (rpl_ints ns)
theorem ok_sorted : Ok1 K (rSortedI K) oSorted := by
  intro v x z es Hz H Q r hx hz q
  obtain ⟨ds, e1, hz⟩ := Option.bind_eq_some_iff.mp hz
  obtain ⟨ns, e2, rfl⟩ := Option.map_eq_some_iff.mp hz
  obtain ⟨a, vs, A, m, rfl, h1, ow⟩ := ls_ok r.ex hx e1
  refine ⟨a, ns, rfl, by rw [← ints_ok ow e2]; exact h1, fun ns' p h2 h3 hp => ?_⟩
  rw [sortI_uniq h2 h3]
  exact q _ _ Hz (Ex.refl _) (Ex.new hp) (new_lst r hp (rpl_ints _))
/-- list(x), tuple(x) -/
def oList : Op1 := fun x => match x.d with
  | .lst ds => if x.q ≤ 1 then some ⟨1, false, .lst ds⟩ else none
  | .frl ds => some ⟨1, false, .lst ds⟩
  | .tup ds => some ⟨1, false, .lst ds⟩
  | _ => none
def oTuple : Op1 := fun x => match x.d with
  | .lst ds => if x.q ≤ 1 then some (pureV (.tup ds)) else none
  | .frl ds => some (pureV (.tup ds))
  | .tup ds => some (pureV (.tup ds))
  | _ => none
theorem OwnL.low {m : Nat} {vs : List V} {ds : List D} {A : List Addr} {q : Nat} (c : q ≤ 1) (e : m = q - 1) (h : OwnL K Hz H m vs ds A) : RpL K Hz vs ds := by
  have : m = 0 := by omega
  subst this
  exact h.zero.2
theorem ok_list : Ok1 K (fun xs H Q => ∃ p ys, xs = [.ref p] ∧ (SqL K H p ys ∨ SqT K H p ys) ∧ ∀ l, H l = none → Q (.ref l) (upd H l (.lst ys))) oList := by
  intro v x z es Hz H Q r hx hz q
  unfold oList at hz
  split at hz
  · rename_i ds e
    split at hz
    · rename_i c
      cases hz
      obtain ⟨a, vs, A, rfl, h1, ow⟩ := hx.lst r.ex e
      exact ⟨a, vs, rfl, .inl (.of h1), fun l hl => q _ _ Hz (Ex.refl _) (Ex.new hl) (new_lst r hl (ow.low c rfl))⟩
    · cases hz
  · rename_i ds e
    cases hz
    obtain ⟨a, vs, rfl, h1, l⟩ := hx.frl e
    exact ⟨a, vs, rfl, .inl (r.ex.sql h1), fun p hl => q _ _ Hz (Ex.refl _) (Ex.new hl) (new_lst r hl l)⟩
  · rename_i ds e
    cases hz
    obtain ⟨a, vs, rfl, h1, l⟩ := hx.tup e
    exact ⟨a, vs, rfl, .inr (.of (r.ex _ _ h1)), fun p hl => q _ _ Hz (Ex.refl _) (Ex.new hl) (new_lst r hl l)⟩
  · cases hz
theorem ok_tuple : Ok1 K (fun xs H Q => ∃ p ys, xs = [.ref p] ∧ ((SqL K H p ys ∧ ∀ l, H l = none → Q (.ref l) (upd H l (.tup ys))) ∨ (SqT K H p ys ∧ Q (.ref p) H))) oTuple := by
  intro v x z es Hz H Q r hx hz q
  unfold oTuple at hz
  split at hz
  · rename_i ds e
    split at hz
    · rename_i c
      cases hz
      obtain ⟨a, vs, A, rfl, h1, ow⟩ := hx.lst r.ex e
      refine ⟨a, vs, rfl, .inl ⟨.of h1, fun l hl => ?_⟩⟩
      obtain ⟨e3, o3⟩ := new_tup r hl (ow.low c rfl)
      exact q _ _ _ e3 (Ex.new hl) o3
    · cases hz
  · rename_i ds e
    cases hz
    obtain ⟨a, vs, rfl, h1, l⟩ := hx.frl e
    refine ⟨a, vs, rfl, .inl ⟨r.ex.sql h1, fun p hl => ?_⟩⟩
    obtain ⟨e3, o3⟩ := new_tup r hl l
    exact q _ _ _ e3 (Ex.new hl) o3
  · rename_i ds e
    cases hz
    obtain ⟨a, vs, rfl, h1, l⟩ := hx.tup e
    exact ⟨a, vs, rfl, .inr ⟨.of (r.ex _ _ h1), q _ H Hz (Ex.refl _) (Ex.refl _) (.pure (.tup h1 l) r)⟩⟩
  · cases hz
def oInt : Op1 := fun x => match x.d with
  | .int i => some (pureV (.int i))
  | .bl k => some (pureV (.int (if k then 1 else 0)))
  | _ => none
theorem ok_int : Ok1 K (fun xs H Q => (∃ i, xs = [.int i] ∧ Q (.int i) H) ∨ ∃ k, xs = [.bl k] ∧ Q (.int (if k then 1 else 0)) H) oInt := by
  intro v x z es Hz H Q r hx hz q
  unfold oInt at hz
  split at hz
  · rename_i i e
    cases hz
    exact .inl ⟨i, by rw [hx.int e], q _ H Hz (Ex.refl _) (Ex.refl _) (.pure (.int _) r)⟩
  · rename_i i e
    cases hz
    exact .inr ⟨i, by rw [hx.bl e], q _ H Hz (Ex.refl _) (Ex.refl _) (.pure (.int _) r)⟩
  · cases hz
def oStrI : Op1 := fun x => match x.d with
  | .int i => if i.natAbs.log2 < 1920 then some (pureV (.str (toString i))) else none
  | _ => none
theorem ok_strI : Ok1 K (fun xs H Q => ∃ i, xs = [.int i] ∧ i.natAbs.log2 < 1920 ∧ Q (.str (toString i)) H) oStrI := by
  intro v x z es Hz H Q r hx hz q
  unfold oStrI at hz
  split at hz
  · rename_i i e
    split at hz
    · rename_i c
      cases hz
      exact ⟨i, by rw [hx.int e], c, q _ H Hz (Ex.refl _) (Ex.refl _) (.pure (.str _) r)⟩
    · cases hz
  · cases hz
/-- isinstance(x, T), T a built-in type -/
def tyD : D → Option String
  | .non => some "NoneType"
  | .bl _ => some "bool"
  | .int _ => some "int"
  | .str _ => some "str"
  | .lst _ => some "list"
  | .tup _ => some "tuple"
  | .dk _ _ => some "dict"
  | .dt _ _ => some "dict"
  | _ => none
theorem tyD_ok {v : V} {d : D} {t : String} (h : Rp K H v d) (e : tyD d = some t) : TyOf K H v (.type t) := by
  cases h <;> simp [tyD] at e <;> subst e
  · exact .non
  · exact .bl _
  · exact .int _
  · exact .str _
  · rename_i h _; exact .lst h
  · rename_i h _; exact .tup h
  · rename_i h _ _; exact .dK h
  · rename_i h _ _; exact .dT h
def oIsi (T : String) : Op1 := fun x => (tyD x.d).bind fun t => (kitB t T).map fun b => pureV (.bl b)
theorem se_isi {T : String} {tx : Str} {tp : Pos} (ha : SE X W sa a fa) (hm : X.mg "isinstance" = none) (hmt : X.mg tx = none) (hvt : bootBuiltins tx = some (.type T)) (hs : s = true → sa = true := by first | exact fun _ => rfl | (intro z; cases z)) (hg : Gl X "isinstance" := by rfl) (hgt : Gl X tx := by rfl) (hn : tx ≠ "__name__" := by decide) (hdb : (tx == ("__debug__" : Str)) = false := by decide)
    (hst : starEach [a, .Name tx tp] X.env = (false, eval a X.env) :: starEach [.Name tx tp] X.env := by rfl) (hst2 : starEach [.Name tx tp] X.env = (false, eval (.Name tx tp) X.env) :: starEach [] X.env := by rfl) (hpl : (backTo pos (starEach [.Name tx tp] X.env)).any (·.1) = false := by rfl) (hv : bootBuiltins "isinstance" = some (.builtin "isinstance") := by rfl) :
    SE X W s (.Call (.Name "isinstance" p) [a, .Name tx tp] [] pos) (e1 (oIsi T) fa) := by
  refine peImp (pe_callB call_isi hg hm hv (pa_cons ha (pa_cons (pe_bltn (v := .ty T) hgt hmt hvt rfl hn hdb) pa_nil hst2) hst) (by decide) (by decide) hst hpl) fun σ H Q q => ?_
  refine one' (fa := fa) q hs fun v x ρ1 es1 Fr Hz1 H1 S o q => ?_
  obtain ⟨z, hz⟩ := opE_some q
  have hz' := hz
  obtain ⟨t, e1, hz⟩ := Option.bind_eq_some_iff.mp hz
  obtain ⟨b, e2, rfl⟩ := Option.map_eq_some_iff.mp hz
  refine ⟨v, .ty T, .type t, .type T, b, rfl, .ty T, .base (tyD_ok (o.view.rp o.rest.ex) e1), kit_ty e2, ?_⟩
  exact fin2 hz' (Ex.refl _) (fun _ => Ex.refl _) S q _ H1 Hz1 (Ex.refl _) (Ex.refl _) (.pure (.bl _) o.rest)

/-! ### alike, unlike: data -/
mutual
def pyd : D → Option PyData
  | .non => some .none
  | .bl b => some (.bool b)
  | .int i => some (.int i)
  | .str x => some (.str x)
  | .lst ds => (pydL ds).map .list
  | .frl ds => (pydL ds).map .list
  | .tup ds => (pydL ds).map .tuple
  | _ => none
def pydL : List D → Option (List PyData)
  | [] => some []
  | d :: ds => (pyd d).bind fun p => (pydL ds).map (p :: ·)
end
mutual
theorem pyd_ok : ∀ {v : V} {d : D} {p : PyData}, Rp K H v d → pyd d = some p → Dp K H v p
  | _, _, _, .non, e => by simp [pyd] at e; subst e; exact .non
  | _, _, _, .bl b, e => by simp [pyd] at e; subst e; exact .bl b
  | _, _, _, .int i, e => by simp [pyd] at e; subst e; exact .int i
  | _, _, _, .str x, e => by simp [pyd] at e; subst e; exact .str x
  | _, _, _, .lst h r, e => by
    simp [pyd] at e
    obtain ⟨ps, h1, rfl⟩ := e
    exact .lst (.of h) (pydL_ok r h1)
  | _, _, _, .frl h r, e => by
    simp [pyd] at e
    obtain ⟨ps, h1, rfl⟩ := e
    exact .lst h (pydL_ok r h1)
  | _, _, _, .tup h r, e => by
    simp [pyd] at e
    obtain ⟨ps, h1, rfl⟩ := e
    exact .tup (.of h) (pydL_ok r h1)
  | _, _, _, .dk _ _ _, e => by simp [pyd] at e
  | _, _, _, .dt _ _ _, e => by simp [pyd] at e
  | _, _, _, .ins _ _ _, e => by simp [pyd] at e
  | _, _, _, .cls _, e => by simp [pyd] at e
  | _, _, _, .hole _, e => by simp [pyd] at e
  | _, _, _, .lkt _, e => by simp [pyd] at e
theorem pydL_ok : ∀ {vs : List V} {ds : List D} {ps : List PyData}, RpL K H vs ds → pydL ds = some ps → DpAll K H vs ps
  | _, _, _, .nil, e => by simp [pydL] at e; subst e; exact .nil
  | _, _, _, .cons h r, e => by
    obtain ⟨p, h1, e⟩ := Option.bind_eq_some_iff.mp e
    obtain ⟨ps, h2, rfl⟩ := Option.map_eq_some_iff.mp e
    exact .cons (pyd_ok h h1) (pydL_ok r h2)
end
def oEqD (neg : Bool) : Op2 := fun x y => (pyd x.d).bind fun p => (pyd y.d).bind fun q => if SeqAt.shaped p = true ∧ SeqAt.shaped q = true then some (pureV (.bl (PyData.eqv p q != neg))) else none
theorem ok_eqD : OpOk K (rEqD K) (oEqD false) := by
  intro v w x y z es Hz H Q r hx hy hz q
  obtain ⟨p1, e1, hz⟩ := Option.bind_eq_some_iff.mp hz
  obtain ⟨p2, e2, hz⟩ := Option.bind_eq_some_iff.mp hz
  split at hz
  · rename_i c
    cases hz
    refine ⟨p1, p2, pyd_ok (hx.rp r.ex) e1, pyd_ok (hy.rp r.ex) e2, c.1, c.2, ?_⟩
    have : (PyData.eqv p1 p2 != false) = PyData.eqv p1 p2 := by cases PyData.eqv p1 p2 <;> rfl
    rw [this] at q
    exact q _ H Hz (Ex.refl _) (Ex.refl _) (.pure (.bl _) r)
  · cases hz
theorem ok_neD : OpOk K (rNeD K) (oEqD true) := by
  intro v w x y z es Hz H Q r hx hy hz q
  obtain ⟨p1, e1, hz⟩ := Option.bind_eq_some_iff.mp hz
  obtain ⟨p2, e2, hz⟩ := Option.bind_eq_some_iff.mp hz
  split at hz
  · rename_i c
    cases hz
    refine ⟨p1, p2, pyd_ok (hx.rp r.ex) e1, pyd_ok (hy.rp r.ex) e2, c.1, c.2, ?_⟩
    have : (PyData.eqv p1 p2 != true) = !PyData.eqv p1 p2 := by cases PyData.eqv p1 p2 <;> rfl
    rw [this] at q
    exact q _ H Hz (Ex.refl _) (Ex.refl _) (.pure (.bl _) r)
  · cases hz

/-! ### in, not in: sequences of flat things -/
def fv : D → Option V
  | .non => some .non
  | .bl b => some (.bl b)
  | .int i => some (.int i)
  | .str x => some (.str x)
  | _ => none
def fvL : List D → Option (List V)
  | [] => some []
  | d :: ds => (fv d).bind fun v => (fvL ds).map (v :: ·)
theorem fv_ok {v w : V} {d : D} (h : Rp K H v d) (e : fv d = some w) : v = w ∧ flatV w = true := by
  cases h <;> simp [fv] at e <;> subst e <;> exact ⟨rfl, rfl⟩
theorem fvL_ok : ∀ {vs ws : List V} {ds : List D}, RpL K H vs ds → fvL ds = some ws → vs = ws ∧ ws.all flatV = true
  | _, _, _, .nil, e => by simp [fvL] at e; subst e; exact ⟨rfl, rfl⟩
  | _, _, _, .cons h r, e => by
    obtain ⟨p, h1, e⟩ := Option.bind_eq_some_iff.mp e
    obtain ⟨ps, h2, rfl⟩ := Option.map_eq_some_iff.mp e
    obtain ⟨rfl, f1⟩ := fv_ok h h1
    obtain ⟨rfl, f2⟩ := fvL_ok r h2
    exact ⟨rfl, by rw [List.all_cons, f1, f2]; rfl⟩
def sqOf : D → Option (List D)
  | .lst ds => some ds
  | .frl ds => some ds
  | .tup ds => some ds
  | _ => none
theorem sq_ok {v : V} {d : D} {ds : List D} (h : Rp K H v d) (e : sqOf d = some ds) : ∃ q vs, v = .ref q ∧ (SqL K H q vs ∨ SqT K H q vs) ∧ RpL K H vs ds := by
  cases h <;> simp [sqOf] at e <;> subst e
  · rename_i h r; exact ⟨_, _, rfl, .inl (.of h), r⟩
  · rename_i h r; exact ⟨_, _, rfl, .inr (.of h), r⟩
  · rename_i h r; exact ⟨_, _, rfl, .inl h, r⟩
def oInS (neg : Bool) : Op2 := fun x y => (fv x.d).bind fun v => (sqOf y.d).bind fun ds => (fvL ds).map fun ws => pureV (.bl (if neg then !inV v ws else inV v ws))
theorem ok_inS {neg : Bool} : OpOk K (rIn K neg) (oInS neg) := by
  intro v w x y z es Hz H Q r hx hy hz q
  obtain ⟨u, e1, hz⟩ := Option.bind_eq_some_iff.mp hz
  obtain ⟨ds, e2, hz⟩ := Option.bind_eq_some_iff.mp hz
  obtain ⟨ws, e3, rfl⟩ := Option.map_eq_some_iff.mp hz
  obtain ⟨rfl, f1⟩ := fv_ok (hx.rp r.ex) e1
  obtain ⟨a, vs, rfl, h1, l⟩ := sq_ok (hy.rp r.ex) e2
  obtain ⟨rfl, f2⟩ := fvL_ok l e3
  exact ⟨a, vs, rfl, h1, f1, f2, q _ H Hz (Ex.refl _) (Ex.refl _) (.pure (.bl _) r)⟩
end
end Pd
end
section
/-! Pd: parts of an owned tree: where they lie, how they are lent and given back. -/
namespace Pd
open PySem L2 PyProof.Rows PySem.Spec
def kids : D → List D
  | .lst ds => ds
  | .dk _ ds => ds
  | .dt _ ds => ds
  | .ins _ _ ds => ds
  | _ => []
def withK : D → List D → D
  | .lst _, ds => .lst ds
  | .dk ks _, ds => .dk ks ds
  | .dt ks _, ds => .dt ks ds
  | .ins C ns _, ds => .ins C ns ds
  | d, _ => d
def hoVals : HO → List V
  | .lst vs => vs
  | .dK l => l.map Prod.snd
  | .dT l => l.map Prod.snd
  | .ins _ _ fs => fs.map Prod.snd
  | _ => []
def getP : D → List Nat → Option D
  | d, [] => some d
  | d, j :: p => ((kids d)[j]?).bind fun c => getP c p
def setP : D → List Nat → D → D
  | _, [], c => c
  | d, j :: p, c => withK d ((kids d).set j (setP ((kids d)[j]?.getD .non) p c))
/-- v stands at the path -/
def AtV (H : Hp) : V → List Nat → V → Prop
  | u, [], v => u = v
  | u, j :: p, v => ∃ a o w, u = .ref a ∧ H a = some o ∧ (hoVals o)[j]? = some w ∧ AtV H w p v
theorem AtV.mono {H H' : Hp} (e : Ex H H') : ∀ {p : List Nat} {u v : V}, AtV H u p v → AtV H' u p v
  | [], _, _, h => h
  | _ :: _, _, _, ⟨a, o, w, h1, h2, h3, h4⟩ => ⟨a, o, w, h1, e _ _ h2, h3, AtV.mono e h4⟩
theorem AtV.snoc {H : Hp} {a : Addr} {o : HO} {w : V} {j : Nat} (h2 : H a = some o) (h3 : (hoVals o)[j]? = some w) : ∀ {p : List Nat} {u : V}, AtV H u p (.ref a) → AtV H u (p ++ [j]) w
  | [], _, e => ⟨a, o, w, e, h2, h3, rfl⟩
  | _ :: _, _, ⟨b, o', w', g1, g2, g3, g4⟩ => ⟨b, o', w', g1, g2, g3, AtV.snoc h2 h3 g4⟩
section
variable {X : Cx} {W : WX} {s sa sb : Bool} {pos : Pos} {K : PySem.W.Frag} {σ : L2.St} {H Hz H' Hz' : Hp} {Q : VK} {es Fr : List Ent}
theorem zip_snd {α : Type} {ks : List α} {vs : List V} (l : ks.length = vs.length) : (ks.zip vs).map Prod.snd = vs := List.map_snd_zip (by omega)
theorem Own.kids {m : Nat} {v : V} {d : D} {A : List Addr} (h : Own K Hz H (m + 1) v d A) (hk : kids d ≠ []) : ∃ a o B, v = .ref a ∧ A = a :: B ∧ H a = some o ∧ OwnL K Hz H m (hoVals o) (kids d) B ∧
    ∀ ds' B', OwnL K Hz H m (hoVals o) ds' B' → Own K Hz H (m + 1) v (withK d ds') (a :: B') := by
  cases h with
  | fz c r =>
    rcases c with c | c
    · cases c
    · cases d <;> first | exact absurd rfl hk | cases c
  | lkt h => exact absurd rfl hk
  | lst h1 h2 => exact ⟨_, _, _, rfl, rfl, h1, h2, fun ds' B' q => .lst h1 q⟩
  | @dk _ a ks vs ds B h1 l h2 =>
    have e := zip_snd l
    refine ⟨_, _, _, rfl, rfl, h1, ?_, fun ds' B' q => ?_⟩
    · show OwnL K Hz H m ((ks.zip vs).map Prod.snd) ds B
      rw [e]; exact h2
    · refine .dk h1 l ?_
      have q' : OwnL K Hz H m ((ks.zip vs).map Prod.snd) ds' B' := q
      rw [e] at q'; exact q'
  | @dt _ a ks vs ds B h1 l h2 =>
    have e := zip_snd l
    refine ⟨_, _, _, rfl, rfl, h1, ?_, fun ds' B' q => ?_⟩
    · show OwnL K Hz H m ((ks.zip vs).map Prod.snd) ds B
      rw [e]; exact h2
    · refine .dt h1 l ?_
      have q' : OwnL K Hz H m ((ks.zip vs).map Prod.snd) ds' B' := q
      rw [e] at q'; exact q'
  | @ins _ a dx C ns vs ds B h1 l h2 =>
    have e : ((ns.map Nm.str).zip vs).map Prod.snd = vs := zip_snd (by rw [List.length_map]; exact l)
    refine ⟨_, _, _, rfl, rfl, h1, ?_, fun ds' B' q => ?_⟩
    · show OwnL K Hz H m (((ns.map Nm.str).zip vs).map Prod.snd) ds B
      rw [e]; exact h2
    · refine .ins h1 l ?_
      have q' : OwnL K Hz H m (((ns.map Nm.str).zip vs).map Prod.snd) ds' B' := q
      rw [e] at q'; exact q'
theorem OwnL.lend {m : Nat} {u : V} {c : D} : ∀ {vs : List V} {ds : List D} {A : List Addr} {j : Nat}, OwnL K Hz H m vs ds A → ds[j]? = some c → vs[j]? = some u → ∃ B A', A.Perm (B ++ A') ∧ Own K Hz H m u c B ∧ OwnL K Hz H m vs (ds.set j (.hole u)) A'
  | _, _, _, _, .nil, e, _ => by simp at e
  | _, _, _, 0, .cons (A := A) (B := B) h r, e, e2 => by
    simp at e e2
    subst e e2
    exact ⟨A, B, List.Perm.refl _, h, .cons (A := []) (.fz (.inr rfl) (.hole _)) r⟩
  | _, _, _, j + 1, .cons (A := A) (B := B) h r, e, e2 => by
    obtain ⟨C, A', p, o, q⟩ := OwnL.lend (j := j) r (by simpa using e) (by simpa using e2)
    refine ⟨C, A ++ A', ?_, o, .cons h q⟩
    refine (p.append_left A).trans ?_
    rw [← List.append_assoc, ← List.append_assoc]
    exact List.perm_append_comm.append_right _
theorem OwnL.back {m : Nat} {u : V} {c : D} {B : List Addr} (hc : Own K Hz H m u c B) : ∀ {vs : List V} {ds : List D} {A : List Addr} {j : Nat}, OwnL K Hz H m vs ds A → ds[j]? = some (.hole u) → ∃ A', (B ++ A).Perm A' ∧ OwnL K Hz H m vs (ds.set j c) A'
  | _, _, _, _, .nil, e => by simp at e
  | _, _, _, 0, .cons (A := A) (B := A2) h r, e => by
    simp at e
    subst e
    obtain ⟨rfl, q⟩ := h.imm rfl
    cases q
    exact ⟨B ++ A2, List.Perm.refl _, .cons hc r⟩
  | _, _, _, j + 1, .cons (A := A) (B := A2) h r, e => by
    obtain ⟨A', p, q⟩ := OwnL.back hc (j := j) r (by simpa using e)
    refine ⟨A ++ A', ?_, .cons h q⟩
    refine List.Perm.trans ?_ (p.append_left A)
    rw [← List.append_assoc, ← List.append_assoc]
    exact List.perm_append_comm.append_right _
theorem kids_withK {d : D} {ds : List D} (h : kids d ≠ []) : kids (withK d ds) = ds := by
  cases d <;> first | rfl | exact absurd rfl h
theorem withK_withK {d : D} {ds ds' : List D} : withK (withK d ds) ds' = withK d ds' := by
  cases d <;> rfl
theorem ne_of_get {α : Type} {xs : List α} {j : Nat} {x : α} (h : xs[j]? = some x) : xs ≠ [] := fun e => by rw [e] at h; simp at h
theorem R.at1 {m j : Nat} {root u : V} {d c : D} {a : Addr} {o : HO} (r : R K (⟨root, m + 1, d⟩ :: es) Hz H) (hc : (kids d)[j]? = some c) (ha : root = .ref a) (ho : H a = some o) (hu : (hoVals o)[j]? = some u) :
    R K (⟨u, m, c⟩ :: ⟨root, m + 1, withK d ((kids d).set j (.hole u))⟩ :: es) Hz H := by
  obtain ⟨ex, A, o', n, z⟩ := r
  cases o' with
  | @cons _ _ A B h r =>
    obtain ⟨a', o2, B', e1, rfl, h2, ow, mk⟩ := h.kids (ne_of_get hc)
    subst ha
    cases e1
    rw [ho] at h2; cases h2
    obtain ⟨C, A', p, q1, q2⟩ := ow.lend hc hu
    refine ⟨ex, _, .cons q1 (.cons (mk _ _ q2) r), ?_⟩
    have pp : (a :: B' ++ B).Perm (C ++ (a :: A' ++ B)) := by
      refine ((p.cons a).append_right B).trans ?_
      rw [← List.append_assoc]
      exact (List.perm_middle.symm).append_right B
    exact ⟨pp.nodup_iff.mp n, fun x hx => z x (pp.mem_iff.mpr hx)⟩
theorem R.unat1 {m j : Nat} {root u : V} {d c : D} (r : R K (⟨u, m, c⟩ :: ⟨root, m + 1, withK d ((kids d).set j (.hole u))⟩ :: es) Hz H) (hj : j < (kids d).length) :
    R K (⟨root, m + 1, withK d ((kids d).set j c)⟩ :: es) Hz H := by
  have hne : kids d ≠ [] := fun e => by rw [e] at hj; simp at hj
  obtain ⟨ex, A, o', n, z⟩ := r
  cases o' with
  | @cons _ _ C B0 q1 r0 =>
    cases r0 with
    | @cons _ _ A B h r =>
      have hk : kids (withK d ((kids d).set j (.hole u))) = (kids d).set j (.hole u) := kids_withK hne
      obtain ⟨a', o2, B', e1, rfl, h2, ow, mk⟩ := Own.kids h (by rw [hk]; exact fun e => by have := congrArg List.length e; simp at this; exact hne this)
      rw [hk] at ow
      obtain ⟨A', p, q⟩ := ow.back q1 (List.getElem?_set_self hj)
      rw [List.set_set] at q
      have o3 := mk _ _ q
      rw [withK_withK] at o3
      refine ⟨ex, _, .cons o3 r, ?_⟩
      have pp : (C ++ (a' :: B' ++ B)).Perm (a' :: A' ++ B) := by
        have p2 : (C ++ (a' :: B')).Perm (a' :: A') := List.perm_middle.trans (p.cons a')
        have p3 := p2.append_right B
        rw [List.append_assoc] at p3
        exact p3
      exact ⟨pp.nodup_iff.mp n, fun x hx => z x (pp.mem_iff.mpr hx)⟩
theorem R.swap (r : R K (a :: b :: es) Hz H) : R K (b :: a :: es) Hz H := r.perm (List.Perm.swap _ _ _)
/-- the part at a path, lent -/
theorem R.at : ∀ {p : List Nat} {m : Nat} {root u : V} {d c : D} {es : List Ent}, R K (⟨root, m, d⟩ :: es) Hz H → AtV H root p u → getP d p = some c → p.length ≤ m → R K (⟨u, m - p.length, c⟩ :: ⟨root, m, setP d p (.hole u)⟩ :: es) Hz H
  | [], m, root, u, d, c, es, r, e, hc, _ => by
    cases hc
    have e' : root = u := e
    subst e'
    exact (r.perm (List.Perm.refl _)).perm (List.Perm.refl _) |> fun r => (R.put (.inr rfl) (.hole root) r).swap
  | j :: p, 0, _, _, _, _, _, _, _, _, h => by simp at h
  | j :: p, m + 1, root, u, d, c, es, r, ⟨a, o, w, h1, h2, h3, h4⟩, hc, hl => by
    obtain ⟨k, hk, hc⟩ := Option.bind_eq_some_iff.mp hc
    have r1 := r.at1 hk h1 h2 h3
    have r2 := R.at (p := p) r1 h4 hc (by simpa using hl)
    -- the middle one back in its place
    have hj : j < (kids d).length := (List.getElem?_eq_some_iff.mp hk).1
    have r3 : R K (⟨w, m, setP k p (.hole u)⟩ :: ⟨root, m + 1, withK d ((kids d).set j (.hole w))⟩ :: ⟨u, m - p.length, c⟩ :: es) Hz H :=
      (r2.swap).perm ((List.Perm.swap _ _ _).cons _)
    have r4 := (r3.unat1 hj).swap
    have e1 : setP d (j :: p) (.hole u) = withK d ((kids d).set j (setP k p (.hole u))) := by
      show withK d ((kids d).set j (setP ((kids d)[j]?.getD .non) p (.hole u))) = _
      rw [hk]; rfl
    rw [e1]
    have e2 : m + 1 - (j :: p).length = m - p.length := by simp
    rw [e2]
    exact r4
/-- and given back -/
theorem R.unat : ∀ {p : List Nat} {m : Nat} {root u : V} {d c0 c : D} {es : List Ent}, R K (⟨u, m - p.length, c⟩ :: ⟨root, m, setP d p (.hole u)⟩ :: es) Hz H → getP d p = some c0 → p.length ≤ m → R K (⟨root, m, setP d p c⟩ :: es) Hz H
  | [], m, root, u, d, c0, c, es, r, _, _ => by
    have e : root = u := by
      obtain ⟨A, hA⟩ := (R.head (r.swap))
      have h : Rp K Hz root (.hole u) := (Own.imm (d := .hole u) rfl hA).2
      cases h
      rfl
    subst e
    exact r.swap.tail
  | j :: p, 0, _, _, _, _, _, _, _, _, h => by simp at h
  | j :: p, m + 1, root, u, d, c0, c, es, r, hc, hl => by
    obtain ⟨k, hk, hc⟩ := Option.bind_eq_some_iff.mp hc
    have hj : j < (kids d).length := (List.getElem?_eq_some_iff.mp hk).1
    have hne : kids d ≠ [] := ne_of_get hk
    have e1 : ∀ c, setP d (j :: p) c = withK d ((kids d).set j (setP k p c)) := fun c => by
      show withK d ((kids d).set j (setP ((kids d)[j]?.getD .non) p c)) = _
      rw [hk]; rfl
    have e2 : m + 1 - (j :: p).length = m - p.length := by simp
    rw [e1, e2] at r
    have r1 := r.swap
    have hk2 : kids (withK d ((kids d).set j (setP k p (.hole u)))) = (kids d).set j (setP k p (.hole u)) := kids_withK hne
    have hg : (kids (withK d ((kids d).set j (setP k p (.hole u)))))[j]? = some (setP k p (.hole u)) := by rw [hk2, List.getElem?_set_self hj]
    obtain ⟨A, hA⟩ := r1.head
    obtain ⟨a, o, B, rfl, _, ha, ow, _⟩ := Own.kids hA (ne_of_get hg)
    have hlen := ow.length
    rw [hk2, List.length_set] at hlen
    obtain ⟨w, hw⟩ : ∃ w, (hoVals o)[j]? = some w := ⟨_, List.getElem?_eq_getElem (by omega)⟩
    have r2 := R.at1 r1 hg rfl ha hw
    rw [hk2, List.set_set, withK_withK] at r2
    have r3 : R K (⟨u, m - p.length, c⟩ :: ⟨w, m, setP k p (.hole u)⟩ :: ⟨.ref a, m + 1, withK d ((kids d).set j (.hole w))⟩ :: es) Hz H := by
      refine r2.perm ?_
      refine List.Perm.trans ?_ (List.Perm.swap _ _ _)
      exact (List.Perm.swap _ _ _).cons _
    have r4 := R.unat (p := p) r3 hc (by simpa using hl)
    rw [e1]
    exact r4.unat1 hj
/-- the part of a variable at hand -/
theorem slot_at {ρ : Vr} {σ : L2.St} {i m : Nat} {d c : D} {p : List Nat} {v : V} {pre : List Ent} (S : Slots σ ρ es) (r : R K (pre ++ (es ++ Fr)) Hz H) (e : ρ[i]? = some (some (m, d))) (hv : ∀ root, σ[i]? = some (some root) → AtV H root p v) (hc : getP d p = some c) (hl : p.length ≤ m) :
    ∃ F : List Ent, R K (⟨v, m - p.length, c⟩ :: (pre ++ F)) Hz H ∧ ∀ {c' : D} {H' Hz' : Hp}, R K (⟨v, m - p.length, c'⟩ :: F) Hz' H' → ∃ es', Slots σ (ρ.set i (some (m, setP d p c'))) es' ∧ R K (es' ++ Fr) Hz' H' := by
  obtain ⟨root, es', h1, h2, h3⟩ := S.take e
  have r1 : R K (⟨root, m, d⟩ :: (pre ++ (es' ++ Fr))) Hz H := by
    refine r.perm ?_
    refine (((h2.append_right Fr)).append_left pre).trans ?_
    exact List.perm_middle
  have r2 := r1.at (hv root h1) hc hl
  refine ⟨⟨root, m, setP d p (.hole v)⟩ :: (es' ++ Fr), r2.perm (List.perm_middle.symm.cons _), fun {c' H' Hz'} r3 => ?_⟩
  have r4 := R.unat (c := c') r3 hc hl
  have hi : i < ρ.length := (List.getElem?_eq_some_iff.mp e).1
  obtain ⟨es2, S2, p2⟩ := h3.put (v := root) (m := m) (d := setP d p c') (by rw [List.getElem?_set_self hi]) h1
  rw [List.set_set] at S2
  exact ⟨es2, S2, r4.perm (mid p2).symm⟩

/-! ### where a part lies -/
inductive RL where
  | ok (i : Nat) (p : List Nat) (ρ : Vr)
  | stuck
abbrev LF := Vr → RL
def tLo (K : PySem.W.Frag) (f : LF) : TE := fun σ H Q => ∃ ρ es Fr Hz, Slots σ ρ es ∧ R K (es ++ Fr) Hz H ∧ match f ρ with
  | .ok i p ρ' => ∀ v H' Hz' es' c m d, Ex Hz Hz' → Ex H H' → Slots σ ρ' es' → R K (es' ++ Fr) Hz' H' → ρ'[i]? = some (some (m, d)) → getP d p = some c → Rp K H' v c → (∀ root, σ[i]? = some (some root) → AtV H' root p v) → Q v H'
  | .stuck => False
abbrev SL (X : Cx) (e : Expr) (f : LF) : Prop := PE X e (tLo X.K f)
def lVar (i : Nat) : LF := fun ρ => match ρ[i]? with
  | some (some _) => .ok i [] ρ
  | _ => .stuck
theorem sl_var (i : Nat) {x : Str} (hN : X.N[i]? = some x := by rfl) (hv : Vis X.env.scope x := by first | exact Or.inl rfl | exact Or.inr (Or.inl rfl) | exact Or.inr (Or.inr rfl)) (hd : (x == ("__debug__" : Str)) = false := by decide)
    (hcd : (x == ("__classdict__" : Str)) = false := by decide) : SL X (.Name x pos) (lVar i) := by
  refine peImp (pv i hN hv hd hcd) fun σ H Q ⟨ρ, es, Fr, Hz, S, r, q⟩ => ?_
  unfold lVar at q
  cases e : ρ[i]? with
  | none => rw [e] at q; exact q.elim
  | some o => cases o with
    | none => rw [e] at q; exact q.elim
    | some md =>
      obtain ⟨m, d⟩ := md
      rw [e] at q
      obtain ⟨v, es', h1, h2, h3⟩ := S.take e
      refine ⟨v, h1, q v H Hz es d m d (Ex.refl _) (Ex.refl _) S r e rfl (r.perm (mid h2)).rp fun root hr => ?_⟩
      rw [h1] at hr
      cases hr
      exact rfl
def ixNm (n : Nm) : List Nm → Option Nat
  | [] => none
  | k :: ns => if k = n then some 0 else (ixNm n ns).map (· + 1)
theorem ixNm_ok {n : Nm} (inj : ∀ k : Nm, k.str = n.str → k = n) : ∀ {ns : List Nm} {vs : List V} {j : Nat} {v : V}, ixNm n ns = some j → vs[j]? = some v → ((ns.map Nm.str).zip vs).lookup n.str = some v
  | [], _, _, _, e, _ => by simp [ixNm] at e
  | k :: ns, [], j, v, _, e2 => by simp at e2
  | k :: ns, w :: vs, j, v, e, e2 => by
    unfold ixNm at e
    rw [List.map_cons, List.zip_cons_cons, List.lookup_cons]
    by_cases c : k = n
    · rw [if_pos c] at e
      cases e
      simp at e2
      subst c e2
      simp
    · rw [if_neg c] at e
      obtain ⟨j', h1, rfl⟩ := Option.map_eq_some_iff.mp e
      have hb : (n.str == k.str) = false := beq_eq_false_iff_ne.mpr fun q => c (inj k q.symm)
      rw [hb]
      exact ixNm_ok inj h1 (by simpa using e2)
/-- o.n -/
def lFld (ft : Nm → List Nm) (n : Nm) (f : LF) : LF := fun ρ => match f ρ with
  | .ok i p ρ1 => match ρ1[i]? with
    | some (some (_, d)) => match getP d p with
      | some (.ins C ns ds) => match ixNm n ns with
        | some j => if n ∈ ft C ∧ j < ds.length then .ok i (p ++ [j]) ρ1 else .stuck
        | none => .stuck
      | _ => .stuck
    | _ => .stuck
  | .stuck => .stuck
theorem getP_snoc {j : Nat} {c k : D} : ∀ {p : List Nat} {d : D}, getP d p = some c → (kids c)[j]? = some k → getP d (p ++ [j]) = some k
  | [], _, e, h => by
    cases e
    show ((kids c)[j]?).bind (fun c => getP c []) = _
    rw [h]; rfl
  | a :: p, d, e, h => by
    obtain ⟨x, h1, h2⟩ := Option.bind_eq_some_iff.mp e
    show ((kids d)[a]?).bind (fun c => getP c (p ++ [j])) = _
    rw [h1]
    exact getP_snoc h2 h
theorem sl_fld {ft : Nm → List Nm} {a : Expr} {f : LF} (F : FldOk X.K ft) (n : Nm) (ha : SL X a f) (hb : attributeBase a n.str X.env (eval a X.env) = eval a X.env := by rfl) : SL X (.Attribute a n.str pos) (lFld ft n f) := by
  refine peImp (pe_fld ha hb) fun σ H Q ⟨ρ, es, Fr, Hz, S, r, q⟩ => ⟨ρ, es, Fr, Hz, S, r, ?_⟩
  unfold lFld at q
  cases e : f ρ with
  | stuck => rw [e] at q; exact q.elim
  | ok i p ρ1 =>
    rw [e] at q
    dsimp only at q ⊢
    intro v H1 Hz1 es1 c m d ez k S1 r1 h1 h2 h3 h4
    rw [h1] at q
    dsimp only at q
    rw [h2] at q
    cases c with
    | ins C ns ds =>
      dsimp only at q
      cases e3 : ixNm n ns with
      | none => rw [e3] at q; exact q.elim
      | some j =>
        rw [e3] at q
        dsimp only at q
        by_cases c : n ∈ ft C ∧ j < ds.length
        · rw [if_pos c] at q
          obtain ⟨c1, c2⟩ := F.cls C n c.1
          cases h3 with
          | @ins a dx _ _ vs _ g1 l rl =>
            have hl := rl.length
            obtain ⟨w, hw⟩ : ∃ w, vs[j]? = some w := ⟨_, List.getElem?_eq_getElem (by omega)⟩
            obtain ⟨cd, hcd⟩ : ∃ w, ds[j]? = some w := ⟨_, List.getElem?_eq_getElem c.2⟩
            obtain ⟨w', hw', hr⟩ := rl.get hcd
            rw [hw] at hw'; cases hw'
            refine ⟨a, _, dx, _, w, rfl, g1, c1, c2, ixNm_ok (F.inj n) e3 hw, ?_⟩
            refine q w H1 Hz1 es1 cd m d ez k S1 r1 h1 (getP_snoc h2 hcd) hr fun root hroot => AtV.snoc g1 ?_ (h4 root hroot)
            show (((ns.map Nm.str).zip vs).map Prod.snd)[j]? = some w
            rw [zip_snd (by rw [List.length_map]; exact l)]
            exact hw
        · rw [if_neg c] at q
          exact q.elim
    | _ => exact q.elim
/-- o[e], o a list -/
def lIdx (f : LF) (fe : EF) : LF := fun ρ => match f ρ with
  | .ok i p ρ1 => match fe ρ1 with
    | .ok x ρ2 => match ρ2[i]?, x.d with
      | some (some (_, d)), .int k => match getP d p with
        | some (.lst ds) => match ixN ds.length k with
          | some j => if j < ds.length then .ok i (p ++ [j]) ρ2 else .stuck
          | none => .stuck
        | _ => .stuck
      | _, _ => .stuck
    | _ => .stuck
  | .stuck => .stuck
end
end Pd
end
section
/-! Pd: changes of parts; comprehensions as expressions. -/
namespace Pd
open PySem L2 PyProof.Rows PySem.Spec
section
variable {X : Cx} {W : WX} {U : List Nat} {s sa sb sc sk sy : Bool} {p pos apos pos' : Pos} {K : PySem.W.Frag} {σ σ' : L2.St} {H Hz H' Hz' : Hp} {Q : VK} {es Fr : List Ent} {a b e : Expr} {fa fb fc fi fk fy : EF} {f g : SF} {lc : LF} {v : V} {Z : Ends}
/-- what lies at a path -/
theorem rp_at {c : D} : ∀ {p : List Nat} {u v : V} {d : D}, Rp K H u d → AtV H u p v → getP d p = some c → Rp K H v c
  | [], u, v, d, r, e, h => by
    have e' : u = v := e
    subst e'
    cases h
    exact r
  | j :: p, u, v, d, r, ⟨a, o, w, h1, h2, h3, h4⟩, h => by
    obtain ⟨k, hk, hc⟩ := Option.bind_eq_some_iff.mp h
    subst h1
    have go : ∀ {vs : List V} {ds : List D}, RpL K H vs ds → hoVals o = vs → ds[j]? = some k → Rp K H w k := fun {vs ds} rl ev hd => by
      obtain ⟨w', hw, hr⟩ := rl.get hd
      rw [ev, hw] at h3
      cases h3
      exact hr
    have hr : Rp K H w k := by
      cases r with
      | lst g1 rl => rw [h2] at g1; cases g1; exact go rl rfl hk
      | dk g1 l rl => rw [h2] at g1; cases g1; exact go rl (zip_snd l) hk
      | dt g1 l rl => rw [h2] at g1; cases g1; exact go rl (zip_snd l) hk
      | ins g1 l rl => rw [h2] at g1; cases g1; exact go rl (zip_snd (by rw [List.length_map]; exact l)) hk
      | tup g1 rl => simp [kids] at hk
      | frl g1 rl => simp [kids] at hk
      | cls C => simp [kids] at hk
      | hole v => simp [kids] at hk
      | lkt h => simp [kids] at hk
    exact rp_at hr h4 hc
theorem slot_rp {ρ : Vr} {i m : Nat} {d c : D} {p : List Nat} (S : Slots σ ρ es) (r : R K (es ++ Fr) Hz H) (e : ρ[i]? = some (some (m, d))) (hv : ∀ root, σ[i]? = some (some root) → AtV H root p v) (hc : getP d p = some c) : Rp K H v c := by
  obtain ⟨root, es', h1, h2, h3⟩ := S.take e
  exact rp_at (r.perm (mid h2)).rp (hv root h1) hc
theorem sl_idx (ha : SL X a lc) (hb : SE X W0 true b fk) (hp : PlainIx b := by intro _ _; rfl) : SL X (.Subscript a b pos) (lIdx lc fk) := by
  refine peImp (pe_ix ix_list ha hb hp) fun σ H Q ⟨ρ, es, Fr, Hz, S, r, q⟩ => ⟨ρ, es, Fr, Hz, S, r, ?_⟩
  unfold lIdx at q
  cases e : lc ρ with
  | stuck => rw [e] at q; exact q.elim
  | ok i p ρ1 =>
    rw [e] at q
    dsimp only at q ⊢
    intro v H1 Hz1 es1 c m d ez k S1 r1 h1 h2 h3 h4
    refine ⟨ρ1, es1, Fr, Hz1, S1, r1, ?_⟩
    cases e2 : fk ρ1 with
    | stuck => rw [e2] at q; exact q.elim
    | exc C ns xs ρ' => rw [e2] at q; exact q.elim
    | ok x ρ2 =>
      rw [e2] at q
      dsimp only at q
      intro w H2 Hz2 es2 ez2 k2 S2 o2
      have k2' := k2 rfl
      cases e3 : ρ2[i]? with
      | none => rw [e3] at q; exact q.elim
      | some o => cases o with
        | none => rw [e3] at q; exact q.elim
        | some md =>
          obtain ⟨m2, d2⟩ := md
          rw [e3] at q
          cases e4 : x.d with
          | int kk =>
            rw [e4] at q
            dsimp only at q
            cases e5 : getP d2 p with
            | none => rw [e5] at q; exact q.elim
            | some c2 =>
              rw [e5] at q
              cases c2 with
              | lst ds =>
                dsimp only at q
                cases e6 : ixN ds.length kk with
                | none => rw [e6] at q; exact q.elim
                | some j =>
                  rw [e6] at q
                  dsimp only at q
                  by_cases hj : j < ds.length
                  · rw [if_pos hj] at q
                    dsimp only at q
                    have at2 : ∀ root, σ[i]? = some (some root) → AtV H2 root p v := fun root hr => (h4 root hr).mono k2'
                    have hrp := slot_rp S2 o2.rest e3 at2 e5
                    cases hrp with
                    | @lst a vs _ g1 rl =>
                      obtain ⟨cd, hcd⟩ : ∃ y, ds[j]? = some y := ⟨_, List.getElem?_eq_getElem hj⟩
                      obtain ⟨u, hu, hr⟩ := rl.get hcd
                      refine ⟨a, vs, kk, u, rfl, o2.view.int e4, .of g1, ?_, ?_⟩
                      · show (ixN vs.length kk).bind (fun j => vs[j]?) = some u
                        rw [rl.length, e6]
                        exact hu
                      · exact q u H2 Hz2 es2 cd m2 d2 (ez.trans ez2) (k.trans k2') S2 o2.rest e3 (getP_snoc e5 hcd) hr fun root hr => AtV.snoc g1 hu (at2 root hr)
                  · rw [if_neg hj] at q
                    exact q.elim
              | _ => exact q.elim
          | _ => rw [e4] at q; exact q.elim

/-! ### a part is changed -/
def mutO (i : Nat) (p : List Nat) (ρ : Vr) (k : Nat → D → Option D) : Option Vr := match ρ[i]? with
  | some (some (m, d)) => match getP d p with
    | some c => if p.length < m then (k (m - p.length - 1) c).map fun c' => ρ.set i (some (m, setP d p c')) else none
    | none => none
  | _ => none
def mutS (i : Nat) (p : List Nat) (ρ : Vr) (k : Nat → D → Option D) : RS := match mutO i p ρ k with
  | some ρ' => .nx ρ'
  | none => .stuck
theorem mutO_ok {i : Nat} {p : List Nat} {ρ ρ' : Vr} {k : Nat → D → Option D} {pre : List Ent} (e : mutO i p ρ k = some ρ') (S : Slots σ ρ es) (r : R K (pre ++ (es ++ Fr)) Hz H) (hv : ∀ root, σ[i]? = some (some root) → AtV H root p v) :
    ∃ (j : Nat) (c c' : D) (F : List Ent), k j c = some c' ∧ (∃ m d, ρ[i]? = some (some (m, d)) ∧ getP d p = some c) ∧ R K (⟨v, j + 1, c⟩ :: (pre ++ F)) Hz H ∧ ∀ {H' Hz' : Hp}, R K (⟨v, j + 1, c'⟩ :: F) Hz' H' → ∃ es', Slots σ ρ' es' ∧ R K (es' ++ Fr) Hz' H' := by
  unfold mutO at e
  split at e
  · rename_i m d e1
    split at e
    · rename_i c e2
      split at e
      · rename_i hl
        obtain ⟨c', h1, rfl⟩ := Option.map_eq_some_iff.mp e
        obtain ⟨F, r1, back⟩ := slot_at S r e1 hv e2 (Nat.le_of_lt hl)
        have hm : m - p.length = (m - p.length - 1) + 1 := by omega
        rw [hm] at r1 back
        exact ⟨_, c, c', F, h1, ⟨m, d, e1, e2⟩, r1, fun {H' Hz'} r2 => back r2⟩
      · cases e
    · cases e
  · cases e
def isLst : D → Bool
  | .lst _ => true
  | _ => false
def lstAt (i : Nat) (p : List Nat) (ρ : Vr) : Bool := match ρ[i]? with
  | some (some (_, d)) => match getP d p with
    | some c => isLst c
    | none => false
  | _ => false
theorem lstAt_ok {i m : Nat} {p : List Nat} {ρ : Vr} {c d : D} (h : lstAt i p ρ = true) (e : ρ[i]? = some (some (m, d))) (e2 : getP d p = some c) (r : Rp K H v c) : tyV K "list" v H := by
  unfold lstAt at h
  rw [e] at h
  dsimp only at h
  rw [e2] at h
  cases r with
  | lst g1 rl => exact .inl ⟨rfl, _, .of g1⟩
  | _ => cases h
def appK (y : RV) (j : Nat) (c : D) : Option D := match c with
  | .lst ds => if ds.length < BIG ∧ (j ≤ y.q ∨ immut y.d = true) then some (.lst (ds ++ [y.d])) else none
  | _ => none
/-- xs.append(e); sy: e changes nothing -/
def sApp (sy : Bool) (lc : LF) (fy : EF) : SF := fun ρ => match lc ρ with
  | .ok i p ρ1 => if lstAt i p ρ1 = true ∧ (sy = true ∨ p = []) then (fy ρ1).bindS fun y ρ2 => if y.b = true then .stuck else mutS i p ρ2 (appK y) else .stuck
  | .stuck => .stuck
theorem AtV.same {p : List Nat} {H1 H2 : Hp} {u v : V} (hp : sy = true ∨ p = []) (k : sy = true → Ex H1 H2) (h : AtV H1 u p v) : AtV H2 u p v := by
  rcases hp with hp | hp
  · exact h.mono (k hp)
  · subst hp; exact h
theorem ss_append (ha : SL X a lc) (hb : SE X W sy b fy) (hs : swapsWith (.Call (.Attribute a "append" apos) [b] [] pos) none pos'.line X.env = pure false := by rfl)
    (hbase : attributeBase a "append" X.env (eval a X.env) = eval a X.env := by rfl)
    (hfew : ((backTo pos (starEach (b :: []) X.env)).all (fun x => !x.1) && (backToKw pos (keywordEach [] X.env)).all (fun x => x.1.isSome)
      && decide ((b :: []).length + ([] : List Keyword).length + (if ([] : List Keyword).isEmpty then 0 else 1) < 30)) = true := by rfl)
    (hline : (apos.endLine == pos.line) = true := by rfl) (hst : starEach (b :: []) X.env = (false, eval b X.env) :: starEach [] X.env := by rfl) :
    SS X W U (.Expr (.Call (.Attribute a "append" apos) [b] [] pos) pos') (sApp sy lc fy) := by
  refine psImp (ps_expr (pe_bm PySem.F.plainAttrs_list PySem.F.slot_list_append PySem.F.type_list_append mt_append ha (pa_cons hb pa_nil hst) hbase hfew hline hst rfl) hs) fun Z σ H ⟨ρ, es, Fr, Hz, S, r, q⟩ => ⟨ρ, es, Fr, Hz, S, r, ?_⟩
  unfold sApp at q
  cases e : lc ρ with
  | stuck => rw [e] at q; exact q.elim
  | ok i p ρ1 =>
    rw [e] at q
    dsimp only at q ⊢
    intro v H1 Hz1 es1 c m d ez k S1 r1 h1 h2 h3 h4
    by_cases hc : lstAt i p ρ1 = true ∧ (sy = true ∨ p = [])
    · rw [if_pos hc] at q
      refine ⟨lstAt_ok hc.1 h1 h2 h3, ρ1, es1, Fr, Hz1, S1, r1, ?_⟩
      cases e2 : fy ρ1 with
      | stuck => rw [e2] at q; exact q.elim
      | exc C ns xs ρ' =>
        rw [e2] at q
        exact fun dx H' Hz' es' ez2 x S r => q dx σ H' Hz' es' (ez.trans ez2) (Fix.refl _ _) x S r
      | ok y ρ2 =>
        rw [e2] at q
        dsimp only [RE.bindS] at q
        intro w H2 Hz2 es2 ez2 k2 S2 o2
        by_cases hb : y.b = true
        · rw [if_pos hb] at q; exact q.elim
        · rw [if_neg hb] at q
          unfold mutS at q
          cases e3 : mutO i p ρ2 (appK y) with
          | none => rw [e3] at q; exact q.elim
          | some ρ3 =>
            rw [e3] at q
            obtain ⟨j, c1, c', F, g1, _, r3, back⟩ := mutO_ok (pre := [⟨w, y.q, y.d⟩]) e3 S2 (o2.own (by simpa using hb)) (v := v) fun root hr => (h4 root hr).same hc.2 k2
            unfold appK at g1
            split at g1
            · rename_i ds
              split at g1
              · rename_i hk
                cases g1
                obtain ⟨Hz3, ez3, r4⟩ := (r3.swap).weaken j hk.2
                obtain ⟨A, hA⟩ := r4.swap.head
                obtain ⟨l, vs, B, rfl, _, hl, ow⟩ := hA.lst_inv
                obtain ⟨es', S', r'⟩ := back (r4.swap.append hl)
                exact ⟨l, vs, w, rfl, rfl, hl, by rw [ow.length]; exact big_lt hk.1, q σ _ Hz3 es' ((ez.trans ez2).trans ez3) (Fix.refl _ _) S' r'⟩
              · cases g1
            · cases g1
    · rw [if_neg hc] at q; exact q.elim
def popK (j : Nat) (c : D) : Option D := match c with
  | .lst ds => match ds.getLast? with
    | some l => if j = 0 ∨ immut l = true then some (.lst ds.dropLast) else none
    | none => none
  | _ => none
def lastAt (i : Nat) (p : List Nat) (ρ : Vr) : Option D := match ρ[i]? with
  | some (some (_, d)) => match getP d p with
    | some (.lst ds) => ds.getLast?
    | _ => none
  | _ => none
/-- xs.pop() -/
def ePop (lc : LF) : EF := fun ρ => match lc ρ with
  | .ok i p ρ1 => match lastAt i p ρ1, mutO i p ρ1 popK with
    | some l, some ρ2 => .ok (pureV l) ρ2
    | _, _ => .stuck
  | .stuck => .stuck
theorem se_pop (ha : SL X a lc) (hbase : attributeBase a "pop" X.env (eval a X.env) = eval a X.env := by rfl) (hline : (apos.endLine == pos.line) = true := by rfl) : SE X W false (.Call (.Attribute a "pop" apos) [] [] pos) (ePop lc) := by
  refine peImp (pe_bm0 PySem.F.plainAttrs_list PySem.F.slot_list_pop PySem.F.type_list_pop mt_pop ha hbase hline) fun σ H Q ⟨ρ, es, Fr, Hz, S, r, q⟩ => ⟨ρ, es, Fr, Hz, S, r, ?_⟩
  unfold ePop at q
  cases e : lc ρ with
  | stuck => rw [e] at q; exact q.elim
  | ok i p ρ1 =>
    rw [e] at q
    dsimp only at q ⊢
    intro v H1 Hz1 es1 c m d ez k S1 r1 h1 h2 h3 h4
    cases e1 : lastAt i p ρ1 with
    | none => rw [e1] at q; exact q.elim
    | some l =>
      cases e2 : mutO i p ρ1 popK with
      | none => rw [e1, e2] at q; exact q.elim
      | some ρ2 =>
        rw [e1, e2] at q
        dsimp only at q
        unfold lastAt at e1
        rw [h1] at e1
        dsimp only at e1
        rw [h2] at e1
        cases h3 with
        | @lst a0 vs0 ds g0 rl0 =>
          dsimp only at e1
          refine ⟨.inl ⟨rfl, _, .of g0⟩, ?_⟩
          obtain ⟨j, c1, c', F, g1, ⟨m', d', k1, k2⟩, r3, back⟩ := mutO_ok (pre := []) e2 S1 r1 (v := .ref a0) h4
          rw [h1] at k1
          cases k1
          rw [h2] at k2
          cases k2
          unfold popK at g1
          obtain ⟨A, hA⟩ := r3.head
          dsimp only at g1
          obtain ⟨a1, vs, B, ev, _, hl, ow⟩ := hA.lst_inv
          cases ev
          rw [g0] at hl
          cases hl
          rw [e1] at g1
          dsimp only at g1
          split at g1
          · rename_i hk
            cases g1
            obtain ⟨es', S', r'⟩ := back (r3.init g0)
            have el' : ds[ds.length - 1]? = some l := by rw [← List.getLast?_eq_getElem?]; exact e1
            obtain ⟨u, B', hu, hB⟩ := ow.getV el'
            have hz : Rp X.K Hz1 u l := by
              rcases hk with hk | hk
              · subst hk; exact hB.zero.2
              · exact (hB.imm hk).2
            refine ⟨a0, vs0, u, rfl, rfl, g0, by rw [ow.length]; exact hu, q u _ Hz1 es' ez (fun z => by cases z) S' (.pure hz r')⟩
          · cases g1
        | _ => cases e1
/-- xs.extend(e) -/
def extK (y : RV) (j : Nat) (c : D) : Option D := match c with
  | .lst ds => match y.d with
    | .lst fs => if ds.length + fs.length ≤ BIG ∧ y.q ≤ 1 ∧ j = 0 then some (.lst (ds ++ fs)) else none
    | _ => none
  | _ => none
def sExt (sy : Bool) (lc : LF) (fy : EF) : SF := fun ρ => match lc ρ with
  | .ok i p ρ1 => if lstAt i p ρ1 = true ∧ (sy = true ∨ p = []) then (fy ρ1).bindS fun y ρ2 => if y.b = true then .stuck else mutS i p ρ2 (extK y) else .stuck
  | .stuck => .stuck
theorem ss_extend (ha : SL X a lc) (hb : SE X W sy b fy) (hs : swapsWith (.Call (.Attribute a "extend" apos) [b] [] pos) none pos'.line X.env = pure false := by rfl)
    (hbase : attributeBase a "extend" X.env (eval a X.env) = eval a X.env := by rfl)
    (hfew : ((backTo pos (starEach (b :: []) X.env)).all (fun x => !x.1) && (backToKw pos (keywordEach [] X.env)).all (fun x => x.1.isSome)
      && decide ((b :: []).length + ([] : List Keyword).length + (if ([] : List Keyword).isEmpty then 0 else 1) < 30)) = true := by rfl)
    (hline : (apos.endLine == pos.line) = true := by rfl) (hst : starEach (b :: []) X.env = (false, eval b X.env) :: starEach [] X.env := by rfl) :
    SS X W U (.Expr (.Call (.Attribute a "extend" apos) [b] [] pos) pos') (sExt sy lc fy) := by
  refine psImp (ps_expr (pe_bm PySem.F.plainAttrs_list PySem.F.slot_list_extend PySem.F.type_list_extend mt_extend ha (pa_cons hb pa_nil hst) hbase hfew hline hst rfl) hs) fun Z σ H ⟨ρ, es, Fr, Hz, S, r, q⟩ => ⟨ρ, es, Fr, Hz, S, r, ?_⟩
  unfold sExt at q
  cases e : lc ρ with
  | stuck => rw [e] at q; exact q.elim
  | ok i p ρ1 =>
    rw [e] at q
    dsimp only at q ⊢
    intro v H1 Hz1 es1 c m d ez k S1 r1 h1 h2 h3 h4
    by_cases hc : lstAt i p ρ1 = true ∧ (sy = true ∨ p = [])
    · rw [if_pos hc] at q
      refine ⟨lstAt_ok hc.1 h1 h2 h3, ρ1, es1, Fr, Hz1, S1, r1, ?_⟩
      cases e2 : fy ρ1 with
      | stuck => rw [e2] at q; exact q.elim
      | exc C ns xs ρ' =>
        rw [e2] at q
        exact fun dx H' Hz' es' ez2 x S r => q dx σ H' Hz' es' (ez.trans ez2) (Fix.refl _ _) x S r
      | ok y ρ2 =>
        rw [e2] at q
        dsimp only [RE.bindS] at q
        intro w H2 Hz2 es2 ez2 k2 S2 o2
        by_cases hb : y.b = true
        · rw [if_pos hb] at q; exact q.elim
        · rw [if_neg hb] at q
          unfold mutS at q
          cases e3 : mutO i p ρ2 (extK y) with
          | none => rw [e3] at q; exact q.elim
          | some ρ3 =>
            rw [e3] at q
            obtain ⟨j, c1, c', F, g1, _, r3, back⟩ := mutO_ok (pre := [⟨w, y.q, y.d⟩]) e3 S2 (o2.own (by simpa using hb)) (v := v) fun root hr => (h4 root hr).same hc.2 k2
            unfold extK at g1
            split at g1
            · rename_i ds
              split at g1
              · rename_i fs ey
                split at g1
                · rename_i hk
                  cases g1
                  obtain ⟨hk1, hk2, hk3⟩ := hk
                  subst hk3
                  obtain ⟨A, hA⟩ := r3.head
                  obtain ⟨l, vs, B, rfl, _, hl, ow⟩ := hA.lst_inv
                  have hvw : View X.K Hz2 H2 w y := r3.swap.head
                  obtain ⟨b', ws, A2, rfl, hb', ow2⟩ := hvw.lst r3.ex ey
                  obtain ⟨es', S', r'⟩ := back (R.extend (r3.swap.tail) hl (ow2.low hk2 rfl))
                  exact ⟨l, b', vs, ws, rfl, rfl, hl, hb', by rw [ow.length, ow2.length]; exact big_line hk1, q σ _ Hz2 es' (ez.trans ez2) (Fix.refl _ _) S' r'⟩
                · cases g1
              · cases g1
            · cases g1
    · rw [if_neg hc] at q; exact q.elim
/-- xs[i] = e -/
def setK (k : Int) (y : RV) (j : Nat) (c : D) : Option D := match c with
  | .lst ds => match ixN ds.length k with
    | some n => if n < ds.length ∧ (j ≤ y.q ∨ immut y.d = true) then some (.lst (ds.set n y.d)) else none
    | none => none
  | _ => none
def intD (x : RV) : Option Int := match x.d with
  | .int k => some k
  | _ => none
theorem intD_eq {x : RV} {k : Int} (h : intD x = some k) : x.d = .int k := by
  unfold intD at h
  split at h
  · rename_i j e; cases h; exact e
  · cases h
def sIxS (sk : Bool) (lc : LF) (fk fy : EF) : SF := fun ρ => (fy ρ).bindS fun y ρ0 => if y.b = true then .stuck else match lc ρ0 with
  | .ok i p ρ1 => if sk = true ∨ p = [] then (fk ρ1).bindS fun x ρ2 => match intD x with
      | some k => mutS i p ρ2 (setK k y)
      | none => .stuck
    else .stuck
  | .stuck => .stuck
theorem RetS.frame {e : Ent} {r : RS} (q : RetS K Fr σ U Hz W r Z) : RetS K (e :: Fr) σ U Hz W r Z := by
  cases r with
  | stuck => exact q
  | nx ρ => exact fun τ H' Hz2 es' e f S r => q τ H' Hz2 es' e f S r.swap4.tail
  | bk ρ => exact fun τ H' Hz2 es' e f S r => q τ H' Hz2 es' e f S r.swap4.tail
  | ct ρ => exact fun τ H' Hz2 es' e f S r => q τ H' Hz2 es' e f S r.swap4.tail
  | rt x ρ => exact ⟨q.1, fun v τ H' Hz2 es' e f S r => q.2 v τ H' Hz2 es' e f S ((r.perm (List.perm_middle.cons _)).perm (List.Perm.swap _ _ _)).tail⟩
  | exc C ns xs ρ => exact fun dx τ H' Hz2 es' e f x S r => q dx τ H' Hz2 es' e f x S r.swap4.tail
theorem ss_ixset {tpos : Pos} {fyE : Expr} (hc : SE X W s fyE fy) (ha : SL X a lc) (hb : SE X W sk b fk)
    (hasg : ∀ v, assign (.Subscript a b tpos) X.env v = (do
      let ov ← holding [v] (eval a X.env)
      let iv ← holding [v, ov] (eval b X.env)
      standAt tpos
      holding [v, ov, iv] (setItem ov iv v)
      release [v, ov, iv] []) := by intro _; rfl)
    (hs : swapsWithSole [.Subscript a b tpos] fyE pos.line X.env = pure false := by rfl) (hw : swappedStores [.Subscript a b tpos] fyE X.env = pure none := by rfl)
    (h1 : (assignEach [.Subscript a b tpos] X.env).map (·.2) = [assign (.Subscript a b tpos) X.env] := by rfl) : SS X W U (.Assign [.Subscript a b tpos] fyE pos) (sIxS sk lc fk fy) := by
  refine psImp (ps_asg hc (pg_sub ha hb set_list hasg) hs hw h1) fun Z σ H q => ?_
  refine oneS q fun w y ρ0 es0 Fr Hz0 H0 S0 o0 q => ?_
  by_cases hyb : y.b = true
  · rw [if_pos hyb] at q; exact q.elim
  rw [if_neg hyb] at q
  have o0' := o0.own (by simpa using hyb)
  refine ⟨ρ0, es0, ⟨w, y.q, y.d⟩ :: Fr, Hz0, S0, o0'.swap3, ?_⟩
  cases e : lc ρ0 with
  | stuck => rw [e] at q; exact q.elim
  | ok i p ρ1 =>
    rw [e] at q
    dsimp only at q ⊢
    intro v H1 Hz1 es1 c m d ez k S1 r1 h1 h2 h3 h4
    by_cases hcd : sk = true ∨ p = []
    · rw [if_pos hcd] at q
      refine ⟨ρ1, es1, ⟨w, y.q, y.d⟩ :: Fr, Hz1, S1, r1, ?_⟩
      cases e2 : fk ρ1 with
      | stuck => rw [e2] at q; exact q.elim
      | exc C ns xs ρ' =>
        rw [e2] at q
        exact fun dx H' Hz' es' ez2 x S r => q dx σ H' Hz' es' (ez.trans ez2) (Fix.refl _ _) x S r.swap4.tail
      | ok x ρ2 =>
        rw [e2] at q
        dsimp only [RE.bindS] at q
        intro u H2 Hz2 es2 ez2 k2 S2 o2
        cases e4 : intD x with
        | none => rw [e4] at q; exact q.elim
        | some kk =>
          rw [e4] at q
          unfold mutS at q
          cases e3 : mutO i p ρ2 (setK kk y) with
          | none => dsimp only at q; rw [e3] at q; exact q.elim
          | some ρ3 =>
            dsimp only at q
            rw [e3] at q
            obtain ⟨j, c1, c', F, g1, _, r3, back⟩ := mutO_ok (pre := [⟨w, y.q, y.d⟩]) e3 S2 (o2.rest.swap4) (v := v) fun root hr => (h4 root hr).same hcd k2
            unfold setK at g1
            split at g1
            · rename_i ds
              split at g1
              · rename_i n en
                split at g1
                · rename_i hk
                  cases g1
                  obtain ⟨Hz3, ez3, r4⟩ := (r3.swap).weaken j hk.2
                  obtain ⟨A, hA⟩ := r4.swap.head
                  obtain ⟨l, vs, B, rfl, _, hl, ow⟩ := hA.lst_inv
                  obtain ⟨es', S', r'⟩ := back (R.setI hk.1 r4.swap hl)
                  exact ⟨l, vs, kk, n, rfl, o2.view.int (intD_eq e4), hl, by rw [ow.length]; exact en, q σ _ Hz3 es' ((ez.trans ez2).trans ez3) (Fix.refl _ _) S' r'⟩
                · cases g1
              · cases g1
            · cases g1
    · rw [if_neg hcd] at q; exact q.elim
/-- d[k] = e -/
def putK' (x y : RV) (j : Nat) (c : D) : Option D := match c with
  | .dk ks ds => match keyOf x.d with
    | some k => if ks.Nodup ∧ ks.length < BIG ∧ (j ≤ y.q ∨ immut y.d = true) then some (.dk (putKs k ks) (putKd k y.d ks ds)) else none
    | none => none
  | .dt ks ds => match keyT x.d with
    | some k => if ks.Nodup ∧ ks.length < BIG ∧ (j ≤ y.q ∨ immut y.d = true) then some (.dt (putKs k ks) (putKd k y.d ks ds)) else none
    | none => none
  | _ => none
def sDpS (sk : Bool) (lc : LF) (fk fy : EF) : SF := fun ρ => (fy ρ).bindS fun y ρ0 => if y.b = true then .stuck else match lc ρ0 with
  | .ok i p ρ1 => if sk = true ∨ p = [] then (fk ρ1).bindS fun x ρ2 => mutS i p ρ2 (putK' x y) else .stuck
  | .stuck => .stuck
theorem ss_dput {tpos : Pos} {fyE : Expr} (hu : X.A.units + 1 < cLine) (hc : SE X W s fyE fy) (ha : SL X a lc) (hb : SE X W sk b fk) (hs : swapsWith fyE (some (.Subscript a b tpos)) pos.line X.env = pure false := by rfl) : SS X W U (.Assign [.Subscript a b tpos] fyE pos) (sDpS sk lc fk fy) := by
  refine psImp (ps_dput hu ha hb hc hs) fun Z σ H q => ?_
  refine oneS q fun w y ρ0 es0 Fr Hz0 H0 S0 o0 q => ?_
  by_cases hyb : y.b = true
  · rw [if_pos hyb] at q; exact q.elim
  rw [if_neg hyb] at q
  have o0' := o0.own (by simpa using hyb)
  refine ⟨ρ0, es0, ⟨w, y.q, y.d⟩ :: Fr, Hz0, S0, o0'.swap3, ?_⟩
  cases e : lc ρ0 with
  | stuck => rw [e] at q; exact q.elim
  | ok i p ρ1 =>
    rw [e] at q
    dsimp only at q ⊢
    intro v H1 Hz1 es1 c m d ez k S1 r1 h1 h2 h3 h4
    by_cases hcd : sk = true ∨ p = []
    · rw [if_pos hcd] at q
      refine ⟨ρ1, es1, ⟨w, y.q, y.d⟩ :: Fr, Hz1, S1, r1, ?_⟩
      cases e2 : fk ρ1 with
      | stuck => rw [e2] at q; exact q.elim
      | exc C ns xs ρ' =>
        rw [e2] at q
        exact fun dx H' Hz' es' ez2 x S r => q dx σ H' Hz' es' (ez.trans ez2) (Fix.refl _ _) x S r.swap4.tail
      | ok x ρ2 =>
        rw [e2] at q
        dsimp only [RE.bindS] at q
        intro u H2 Hz2 es2 ez2 k2 S2 o2
        unfold mutS at q
        cases e3 : mutO i p ρ2 (putK' x y) with
        | none => rw [e3] at q; exact q.elim
        | some ρ3 =>
          rw [e3] at q
          obtain ⟨j, c1, c', F, g1, _, r3, back⟩ := mutO_ok (pre := [⟨w, y.q, y.d⟩]) e3 S2 (o2.rest.swap4) (v := v) fun root hr => (h4 root hr).same hcd k2
          unfold putK' at g1
          split at g1
          · rename_i ks ds
            split at g1
            · rename_i kk ek
              split at g1
              · rename_i hk
                cases g1
                obtain ⟨Hz3, ez3, r4⟩ := (r3.swap).weaken j hk.2.2
                obtain ⟨A, hA⟩ := r4.swap.head
                obtain ⟨l, vs, B, rfl, _, hl, ll, ow⟩ := hA.dk_inv
                obtain ⟨es', S', r'⟩ := back (R.putDk hk.1 r4.swap hl ll)
                have ew := keyOf_ok (o2.view.imm (keyOf_imm ek)) ek
                refine ⟨l, _, rfl, ?_, q σ _ Hz3 es' ((ez.trans ez2).trans ez3) (Fix.refl _ _) S' r'⟩
                rw [ew]
                exact DPut.k hl (by rw [List.length_zip, ← ll, Nat.min_self]; exact big_lt hk.2.1)
              · cases g1
            · cases g1
          · rename_i ks ds
            split at g1
            · rename_i kk ek
              split at g1
              · rename_i hk
                cases g1
                obtain ⟨Hz3, ez3, r4⟩ := (r3.swap).weaken j hk.2.2
                obtain ⟨A, hA⟩ := r4.swap.head
                obtain ⟨l, vs, B, rfl, _, hl, ll, ow⟩ := hA.dt_inv
                obtain ⟨es', S', r'⟩ := back (R.putDt hk.1 r4.swap hl ll)
                obtain ⟨b', rfl, hb'⟩ := keyT_ok (o2.view.imm (keyT_imm ek)) ek
                refine ⟨l, _, rfl, ?_, q σ _ Hz3 es' ((ez.trans ez2).trans ez3) (Fix.refl _ _) S' r'⟩
                exact DPut.t hl (o2.rest.ex _ _ hb') (by rw [List.length_zip, ← ll, Nat.min_self]; exact big_lt hk.2.1)
              · cases g1
            · cases g1
          · cases g1
    · rw [if_neg hcd] at q; exact q.elim
/-! ### comprehensions -/
theorem ptsImp {es : List Expr} {t t' : TT} (h : PTs X es t) (i : ∀ σ H Q, t' σ H Q → t σ H Q) : PTs X es t' := ⟨fun pins s σ H Q I q => h.run pins s σ H Q I (i σ H Q q)⟩
theorem pts_yes : PTs X [] (tT X.K W true (eC (.bl true))) := ptsImp pts_nil fun σ H Q ⟨ρ, es, Fr, Hz, S, r, q⟩ => by
  obtain ⟨c, e, h⟩ := q (.bl true) H Hz es (Ex.refl _) (fun _ => Ex.refl _) S (.pure (.bl true) r)
  cases e
  exact h
/-- the block's context -/
abbrev blkX (X : Cx) (scope : Scope) (s : Shared) (H : Hp) (C : Addr) (cl : List (Str × Addr)) (fp : List Addr) : Cx := X.blk s H scope (compEnvC scope cl C X.env) fp
theorem se_lc {elt tg iter : Expr} {ifs : List Expr} {scope : Scope} {own : List (Str × Nat)} {t : Tg} {fi' : IF} {ft fe : EF} (hc : X.calm = true) (hN : X.N.Nodup) (hi : SI X W sa tg iter fi') (ok : BlkOk X.N X.env.scope scope own)
    (hg : ∀ s H C cl fp, PG (blkX X scope s H C cl fp) tg (gT X.K t)) (ht : ∀ s H C cl fp, PTs (blkX X scope s H C cl fp) ifs (tT X.K W0 sb ft)) (he : ∀ s H C cl fp, SE (blkX X scope s H C cl fp) W0 sc elt fe)
    (hv : ∀ i ∈ t.all, i ∈ own.map (·.2) := by decide) (hs : s = true → sa = true ∧ sb = true ∧ sc = true := by first | exact fun _ => ⟨rfl, rfl, rfl⟩ | (intro z; cases z)) (hf : ∀ x, foldedSetIterable iter X.env x = pure x := by intro _; rfl) :
    SE X W s (.ListComp elt [⟨tg, iter, ifs, 0⟩] scope pos) (eLc (own.map (·.2)) t fi' ft fe) :=
  peImp (pe_lc hc hN hi ok hg ht he hf) fun σ H Q q => Pd.lc_core hv hs q
theorem ss_setLc {i : Nat} {y : Str} {py : Pos} {elt tg iter : Expr} {ifs : List Expr} {scope : Scope} {own : List (Str × Nat)} {spos : Pos} {t : Tg} {fi' : IF} {ft fe : EF} (hc : X.calm = true) (hN : X.N.Nodup) (hy : X.N[i]? = some y) (hyl : X.env.scope.names.lookup y = some .local)
    (hsw : swapsWith (.ListComp elt [⟨tg, iter, ifs, 0⟩] scope pos) (some (.Name y py)) spos.line X.env = pure true) (hi : SI X W sa tg iter fi') (ok : BlkOk X.N X.env.scope scope own)
    (hg : ∀ s H C cl fp, PG (blkX X scope s H C cl fp) tg (gT X.K t)) (ht : ∀ s H C cl fp, PTs (blkX X scope s H C cl fp) ifs (tT X.K W0 sb ft)) (he : ∀ s H C cl fp, SE (blkX X scope s H C cl fp) W0 sc elt fe)
    (hv : ∀ i ∈ t.all, i ∈ own.map (·.2) := by decide) (hu : i ∉ U := by decide) (hf : ∀ x, foldedSetIterable iter X.env x = pure x := by intro _; rfl) :
    SS X W U (.Assign [.Name y py] (.ListComp elt [⟨tg, iter, ifs, 0⟩] scope pos) spos) (sAs i (eLc (own.map (·.2)) t fi' ft fe)) :=
  psImp (ps_setLc (te := tE X.K W0 sc fe) hc hN hy hyl hsw hi ok hg ht he hf) fun Z σ H q => by
    have q' : tAsg (tE X.K W false (eLc (own.map (·.2)) t fi' ft fe)) (gName i) Z σ H := asg_core hu q
    exact Pd.lc_core (s := false) hv (fun z => by cases z) q'
end
end Pd
end
section
/-! Pd: a law's facts, its defs, its end. -/
namespace Pd
open PySem L2 PyProof.Rows PySem.Spec
/-! ### the head's facts -/
/-- C.m read off the class C -/
def uokB (K : PySem.W.Frag) (p : Str × Str) : Bool := decide (PySem.W.specialIn K (.ref (He.ga K p.1)) "__getattribute__" = some (some (.builtin "type.__getattribute__"))) && (PySem.W.readsIn K (He.ga K p.1) (.type "type") &&
  (PySem.W.keepIn K (.ref (He.ma K (He.ga K p.1) p.2)) && (match PySem.W.findCls K (.ref (He.ga K p.1)) (.type "type") p.2 with
    | some (.val (.ref g)) => decide (g = He.ma K (He.ga K p.1) p.2)
    | _ => false)))
theorem uok_ok {K : PySem.W.Frag} {x m : Str} (h : uokB K (x, m) = true) : UOk K (He.ga K x) (He.ma K (He.ga K x) m) m := by
  obtain ⟨h1, h⟩ := He.ba h
  obtain ⟨h2, h⟩ := He.ba h
  obtain ⟨h3, h4⟩ := He.ba h
  refine ⟨of_decide_eq_true h1, ⟨_, h2, ?_⟩, h3⟩
  revert h4
  generalize PySem.W.findCls K (.ref (He.ga K x)) (.type "type") m = r
  intro h4
  split at h4
  · rename_i g
    rw [of_decide_eq_true h4]
  · cases h4
/-- what else is asked of the head -/
inductive Ck where
  | uok (C m : Str)
  | al (x m y : Str)
def Ck.ok (K : PySem.W.Frag) : Ck → Bool
  | .uok C m => uokB K (C, m)
  | .al x m y => decide (He.ma K (He.ga K x) m = He.ma K (He.ga K y) m)
def obsC (fa : List He.Fa) (us : List Ck) (fn : List He.DefD) (K : PySem.W.Frag) : He.AlD := ((fa.all fun f => f.ok K) && ((fn.all fun d => d.ok K) && us.all (Ck.ok K)), fn.map fun d => He.fnW K d.at_)
def asC (g : Addr → Option Obj) (n : Nat) : List Addr := He.asD g n ++ [cStatics]
def obsCG (n : Nat) (fa : List He.Fa) (us : List Ck) (fn : List He.DefD) (g : Addr → Option Obj) : He.AlD := obsC fa us fn (He.frG g (asC g n))
structure Says (fa : List He.Fa) (us : List Ck) (fn : List He.DefD) (K : PySem.W.Frag) : Prop where
  eq : obsC fa us fn K = He.valD fn
def hookC (n : Nat) (fa : List He.Fa) (us : List Ck) (fn : List He.DefD) : PySem.W.Hook where
  α := He.AlD
  obs := fun s => obsCG n fa us fn s.heap.get?
  val := fun _ => He.valD fn
  says := fun _ h => ∃ K : PySem.W.Frag, K.In h ∧ Says fa us fn K
  of := fun _ _ e => ⟨_, He.frG_in, ⟨e⟩⟩
  keeps := fun _ _ _ ⟨K, hK, c⟩ k => ⟨K, PySem.W.Frag.In.keeps hK k, c⟩
theorem obsCG_eq {n : Nat} {fa : List He.Fa} {us : List Ck} {fn : List He.DefD} {g : Addr → Option Obj} {s : Shared} (h : ∀ a, g a = s.heap.get? a) : obsCG n fa us fn g = (hookC n fa us fn).obs s := by
  have e : g = s.heap.get? := funext h
  rw [e] <;> rfl
/-- what the head tells -/
structure Fx (fa : List He.Fa) (us : List Ck) (fn : List He.DefD) (K : PySem.W.Frag) (mg : Str → Option Value) : Prop where
  ex : ∃ h : Heap, K.In h ∧ h.Ns mainGlobals mg
  says : Says fa us fn K
section
variable {fa : List He.Fa} {us : List Ck} {fn : List He.DefD} {K : PySem.W.Frag} {mg : Str → Option Value}
theorem Fx.fact (F : Fx fa us fn K mg) (i : Nat) {f : He.Fa} (h : fa[i]? = some f := by rfl) : f.ok K = true := by
  have c1 := (He.ba (show ((fa.all fun f => f.ok K) && ((fn.all fun d => d.ok K) && us.all (Ck.ok K))) = true from congrArg (fun z : He.AlD => z.1) F.says.eq)).1
  exact List.all_eq_true.mp c1 f (List.mem_of_getElem? h)
theorem Fx.uok (F : Fx fa us fn K mg) (i : Nat) {x m : Str} (h : us[i]? = some (.uok x m) := by rfl) : UOk K (He.ga K x) (He.ma K (He.ga K x) m) m := by
  have c1 := (He.ba (He.ba (show ((fa.all fun f => f.ok K) && ((fn.all fun d => d.ok K) && us.all (Ck.ok K))) = true from congrArg (fun z : He.AlD => z.1) F.says.eq)).2).2
  exact uok_ok (List.all_eq_true.mp c1 (.uok x m) (List.mem_of_getElem? h))
theorem Fx.al (F : Fx fa us fn K mg) (i : Nat) {x m y : Str} (h : us[i]? = some (.al x m y) := by rfl) : He.ma K (He.ga K x) m = He.ma K (He.ga K y) m := by
  have c1 := (He.ba (He.ba (show ((fa.all fun f => f.ok K) && ((fn.all fun d => d.ok K) && us.all (Ck.ok K))) = true from congrArg (fun z : He.AlD => z.1) F.says.eq)).2).2
  exact of_decide_eq_true (List.all_eq_true.mp c1 (.al x m y) (List.mem_of_getElem? h))
theorem Fx.def_ (F : Fx fa us fn K mg) (i : Nat) {d : He.DefD} (h : fn[i]? = some d := by rfl) : ∃ fd, FunD K d.name d.qual d.params d.body d.scope (d.dvs K) (d.kws K) (He.fAd K d.at_) fd := by
  have c2 := (He.ba (He.ba (show ((fa.all fun f => f.ok K) && ((fn.all fun d => d.ok K) && us.all (Ck.ok K))) = true from congrArg (fun z : He.AlD => z.1) F.says.eq)).2).1
  have e : fn.map (fun d => He.fnW K d.at_) = fn.map He.DefD.val := congrArg (fun z : He.AlD => z.2) F.says.eq
  have e2 : (fn.map fun d => He.fnW K d.at_)[i]? = (fn.map He.DefD.val)[i]? := by rw [e]
  rw [List.getElem?_map, List.getElem?_map, h] at e2
  exact He.DefD.funD (Option.some.inj e2) (List.all_eq_true.mp c2 d (List.mem_of_getElem? h))
theorem Fx.glo (F : Fx fa us fn K mg) (i : Nat) {x : Str} (h : fa[i]? = some (.glo x) := by rfl) : mg x = some (.ref (He.ga K x)) := F.ex.elim fun _ q => He.glo_ok q.1 q.2 (F.fact i h)
theorem Fx.free (F : Fx fa us fn K mg) (i : Nat) {x : Str} (h : fa[i]? = some (.free x) := by rfl) : mg x = none := F.ex.elim fun _ q => He.free_ok q.1 q.2 (F.fact i h)
theorem Fx.int (F : Fx fa us fn K mg) (i : Nat) {x : Str} {n : Int} (h : fa[i]? = some (.int x n) := by rfl) : ∃ t, mg x = some (.int n t) := F.ex.elim fun _ q => He.int_ok q.1 q.2 (F.fact i h)
theorem Fx.cls (F : Fx fa us fn K mg) (i : Nat) {x : Str} (h : fa[i]? = some (.cls x) := by rfl) : Cls K (He.ga K x) := He.cls_ok (F.fact i h)
theorem Fx.noat (F : Fx fa us fn K mg) (i : Nat) {x f : Str} (h : fa[i]? = some (.noat x f) := by rfl) : NoAttr K (He.ga K x) f := He.noat_ok (F.fact i h)
theorem Fx.meth (F : Fx fa us fn K mg) (i : Nat) {x m : Str} (h : fa[i]? = some (.meth x m) := by rfl) : Meth K (He.ga K x) m (He.ma K (He.ga K x) m) := He.meth_ok (F.fact i h)
theorem Fx.mkr (F : Fx fa us fn K mg) (i : Nat) {x : Str} (h : fa[i]? = some (.mkr x) := by rfl) : Mk K (He.ga K x) (He.ma K (He.ga K x) "__init__") := He.mkr_ok (F.fact i h)
theorem Fx.keep (F : Fx fa us fn K mg) (i : Nat) {x : Str} (h : fa[i]? = some (.keep x) := by rfl) : PySem.W.keepIn K (.ref (He.ga K x)) = true := F.fact i h
end
/-! ### a def of the law -/
structure DefOk (P : Program) (w : World) (K : PySem.W.Frag) (mg : Str → Option Value) (base : Heap) (k : Nat) (f : Addr) (np : Nat) (dfl : List D) (cl : List RV → RC) : Prop where
  nps : ∀ ys, cl ys ≠ .stuck → ys.length = np
  ex : ∃ fd ps, FnOk P w K mg base (L2.CX P w) k f fd ps (spF K np cl) ∧ ∀ j, j ≤ dfl.length → ∃ dvs ds, Binds K fd ps ds ∧ Vals dvs ds ∧ ∀ H, RpL K H dvs (dfl.drop j)
  kp : PySem.W.keepIn K (.ref f) = true
section
variable {P : Program} {w : World} {K : PySem.W.Frag} {mg : Str → Option Value} {base : Heap} {k np : Nat} {f : Addr} {dfl : List D} {cl : List RV → RC}
theorem DefOk.callee {X : Cx} {k' : Nat} (h : DefOk X.prog X.w X.K X.mg X.base k f np dfl cl) (j : Nat) (hj : j ≤ dfl.length := by decide) (hk : k ≤ k' := by decide) : Callee X k' f np cl (dfl.drop j) := by
  obtain ⟨n, ⟨fd, ps, F, b⟩, _⟩ := h
  obtain ⟨dvs, ds, b1, b2, b3⟩ := b j hj
  exact ⟨⟨fd, ps, dvs, ds, F.mono hk, b1, b2, b3⟩, n⟩
/-- the values that fill up -/
def dvD : He.Dv → D
  | .non => .non
  | .bl b => .bl b
  | .int i => .int i
  | .str x => .str x
  | _ => .non
def dvOk : He.Dv → Bool
  | .non => true | .bl _ => true | .int _ => true | .str _ => true
  | _ => false
theorem dv_rp : ∀ {l : List He.Dv}, l.all dvOk = true → ∀ H, RpL K H (l.map (He.Dv.v K)) (l.map dvD)
  | [], _, H => .nil
  | d :: l, h, H => by
    rw [List.all_cons, Bool.and_eq_true] at h
    refine .cons ?_ (dv_rp h.2 H)
    cases d <;> first | exact .non | exact .bl _ | exact .int _ | exact .str _ | cases h.1
def ioIx (io : List Bool) : List Nat := (List.range io.length).filter fun i => io[i]? == some true
theorem ioIx_ok {io : List Bool} : ∀ i : Nat, io[i]? = some true → i ∈ ioIx io := fun i h => by
  unfold ioIx
  rw [List.mem_filter, List.mem_range]
  exact ⟨(List.getElem?_eq_some_iff.mp h).1, by rw [h]; rfl⟩
/-- U: the parameters that are lent -/
theorem def_law {d : He.DefD} {N ps : List Str} {k : Nat} {fc : FnC} {fd : FuncData} (F : FunD K d.name d.qual d.params d.body d.scope (d.dvs K) (d.kws K) (He.fAd K d.at_) fd) (S : FnScope N ps d.scope)
    (hn : ps.length = fc.np) (hN : N.length = fc.ns) (hio : fc.io.length = fc.np) (hdv : d.dfl.all dvOk = true)
    (hbd : ∀ j, j ≤ d.dfl.length → ∃ ds, Vals ((d.dvs K).drop j) ds ∧ Binds K fd ps ds)
    (hb : ∀ (cdv : Value) (A : Around) (outer : List Env) (s : Shared) (H : Hp) (E : XK), Room k (A.deeper (envOfC d.qual d.scope s.heap.objs.size (He.fAd K d.at_) cdv)) →
      SB (cxOf (L2.CX P w) P w K mg base N d.qual d.scope (He.fAd K d.at_) cdv A outer s H E) (fun cls d _ H => E cls d H) (ioIx fc.io) d.body fc.body) : DefOk P w K mg base (k + 1) (He.fAd K d.at_) fc.np (d.dfl.map dvD) (runFn fc) := by
  refine ⟨fun ys => runFn_np, ⟨fd, ps, def_ok F S hn hN hio ioIx_ok hb, fun j hj => ?_⟩, F.kp⟩
  obtain ⟨ds, v, b⟩ := hbd j (by simpa using hj)
  refine ⟨_, ds, b, v, fun H => ?_⟩
  exact (dv_rp (K := K) hdv H).drop j
theorem bd0 {x qual : Str} {params : Arguments} {body : List Stmt} {scope : Scope} {kws : List (Str × V)} {fd : FuncData} {ps : List Str} {dvs : List V} {m : Nat} (hd : dvs = []) (hm : m = 0) (F : FunD K x qual params body scope dvs kws f fd)
    (h : ∀ (kV doc pm : Value) (an : Option Addr) (cdv ct : Value) (us : List Value), us.length = ps.length → bindArgs (PySem.W.fnOf x qual params body scope .none kV doc pm an cdv ct) ⟨us, []⟩ = pure (ps.zip us)) :
    ∀ j, j ≤ m → ∃ ds, Vals (dvs.drop j) ds ∧ Binds K fd ps ds := fun j hj => by
  subst hd
  exact ⟨[], by rw [List.drop_nil]; exact .nil, F.bindsN h⟩
end
/-! ### fields, methods -/
/-- the fields of the classes -/
def ftOf (l : List (Nm × List Nm)) (C : Nm) : List Nm := (l.lookup C).getD []
theorem lookup_mem {α β : Type} [BEq α] [LawfulBEq α] {a : α} {b : β} : ∀ {l : List (α × β)}, l.lookup a = some b → (a, b) ∈ l
  | [], h => by simp at h
  | (c, d) :: l, h => by
    rw [List.lookup_cons] at h
    split at h
    · rename_i e
      cases h
      rw [beq_iff_eq.mp e]
      exact List.mem_cons_self
    · exact List.mem_cons_of_mem _ (lookup_mem h)
theorem nm_inj (f n : Nm) (h : n.str = f.str) : n = f := Nm.str_inj h
theorem fld_ok {K : PySem.W.Frag} {l : List (Nm × List Nm)} (h : ∀ p ∈ l, Cls K (ca K p.1) ∧ ∀ f ∈ p.2, NoAttr K (ca K p.1) f.str) : FldOk K (ftOf l) := ⟨fun C f hf => by
  unfold ftOf at hf
  cases e : l.lookup C with
  | none => rw [e] at hf; cases hf
  | some fs =>
    rw [e] at hf
    obtain ⟨h1, h2⟩ := h _ (lookup_mem e)
    exact ⟨h1, h2 f hf⟩, nm_inj⟩
abbrev MRow := Nm × Nat × (List RV → RC) × List D
def mtOf (l : List MRow) : MTab := fun C => l.lookup C
theorem mt_ok {X : Cx} {k : Nat} {m : Str} {l : List MRow} (h : ∀ p ∈ l, MOk X k (ca X.K p.1) m p.2.1 p.2.2.1 p.2.2.2) : ∀ C np cl dfl, mtOf l C = some (np, cl, dfl) → MOk X k (ca X.K C) m np cl dfl := fun C np cl dfl e => h _ (lookup_mem e)
theorem mok {X : Cx} {k np : Nat} {C : Addr} {m : Str} {g g' : Addr} {cl : List RV → RC} {dfl : List D} (c : Cls X.K C) (h : Meth X.K C m g) (e : g = g') (F : Callee X k g' np cl dfl) : MOk X k C m np cl dfl := ⟨c, g, h, e ▸ F⟩
/-! ### list(d), d a dict with tuple keys -/
section
variable {K : PySem.W.Frag} {Hz H : Hp}
mutual
theorem Own.notup : ∀ {m : Nat} {v : V} {d : D} {A : List Addr}, Own K Hz H m v d A → ∀ a ∈ A, ∀ vs, H a ≠ some (.tup vs)
  | _, _, _, _, .fz _ _, a, ha => absurd ha (by simp)
  | _, _, _, _, .lst h r, a, ha => (List.mem_cons.mp ha).elim (fun e vs q => by rw [e, h] at q; cases q) (OwnL.notup r a)
  | _, _, _, _, .dk h _ r, a, ha => (List.mem_cons.mp ha).elim (fun e vs q => by rw [e, h] at q; cases q) (OwnL.notup r a)
  | _, _, _, _, .dt h _ r, a, ha => (List.mem_cons.mp ha).elim (fun e vs q => by rw [e, h] at q; cases q) (OwnL.notup r a)
  | _, _, _, _, .ins h _ r, a, ha => (List.mem_cons.mp ha).elim (fun e vs q => by rw [e, h] at q; cases q) (OwnL.notup r a)
  | _, _, _, _, .lkt h, a, ha => fun vs q => by rw [List.mem_singleton.mp ha, h] at q; cases q
theorem OwnL.notup : ∀ {m : Nat} {vs : List V} {ds : List D} {A : List Addr}, OwnL K Hz H m vs ds A → ∀ a ∈ A, ∀ vs, H a ≠ some (.tup vs)
  | _, _, _, _, .nil, a, ha => absurd ha (by simp)
  | _, _, _, _, .cons h r, a, ha => (List.mem_append.mp ha).elim (Own.notup h a) (OwnL.notup r a)
end
theorem OwnE.notup : ∀ {es : List Ent} {A : List Addr}, OwnE K Hz H es A → ∀ a ∈ A, ∀ vs, H a ≠ some (.tup vs)
  | _, _, .nil, a, ha => absurd ha (by simp)
  | _, _, .cons h r, a, ha => (List.mem_append.mp ha).elim (h.notup a) (OwnE.notup r a)
/-- a tuple that lies there is frozen -/
theorem R.adopt {es : List Ent} {b : Addr} {vs : List V} (r : R K es Hz H) (hb : H b = some (.tup vs)) : ∃ Hz', Ex Hz Hz' ∧ R K es Hz' H ∧ Hz' b = some (.tup vs) := by
  obtain ⟨ex, A, o, n, z⟩ := r
  have hbA : b ∉ A := fun h => o.notup b h vs hb
  have ez : Ex Hz (upd Hz b (.tup vs)) := fun a u e => by
    by_cases c : a = b
    · subst c
      have := ex _ _ e
      rw [hb] at this
      rw [upd_same]; exact this
    · rw [upd_ne c]; exact e
  refine ⟨upd Hz b (.tup vs), ez, ⟨fun a u e => ?_, A, o.mono ez fun _ _ => rfl, n, fun a ha => ?_⟩, upd_same⟩
  · by_cases c : a = b
    · subst c; rw [upd_same] at e; rw [hb]; exact e
    · rw [upd_ne c] at e; exact ex _ _ e
  · rw [upd_ne (fun (c : a = b) => hbA (by rw [← c]; exact ha))]; exact z a ha
def keyD : Key → D
  | .inl i => .int i
  | .inr x => .str x
theorem keyD_rp (k : Key) : Rp K H (kV k) (keyD k) := by cases k <;> first | exact .int _ | exact .str _
theorem keysD_rp : ∀ ks : List Key, RpL K H (ks.map kV) (ks.map keyD)
  | [] => .nil
  | k :: ks => .cons (keyD_rp k) (keysD_rp ks)
theorem adopt_keys {es : List Ent} : ∀ {kvs : List (List Key × V)} {bs : List Addr} {Hz : Hp}, R K es Hz H → IsKeys H kvs bs → ∃ Hz', Ex Hz Hz' ∧ R K es Hz' H ∧ RpL K Hz' (bs.map V.ref) (kvs.map fun p => D.tup (p.1.map keyD))
  | _, _, Hz, r, .nil => ⟨Hz, Ex.refl _, r, .nil⟩
  | _, _, Hz, r, .cons h t => by
    obtain ⟨Hz1, e1, r1, h1⟩ := r.adopt h
    obtain ⟨Hz2, e2, r2, l⟩ := adopt_keys r1 t
    exact ⟨Hz2, e1.trans e2, r2, .cons ((Rp.tup h1 (keysD_rp _)).mono e2) l⟩
def oListT : Op1 := fun x => match x.d with
  | .dt ks _ => some ⟨1, false, .lst (ks.map fun k => .tup (k.map keyD))⟩
  | _ => none
theorem ok_listT : Ok1 K (fun xs H Q => ∃ d kvs, xs = [V.ref d] ∧ Rd H d (.dT kvs) ∧ ∀ p bs, H p = none → IsKeys H kvs bs → Q (.ref p) (upd H p (.lst (bs.map V.ref)))) oListT := by
  intro v x z es Hz H Q r hx hz q
  unfold oListT at hz
  split at hz
  · rename_i ks ds e
    cases hz
    obtain ⟨a, vs, A, rfl, h1, l, ow⟩ := hx.dt r.ex e
    refine ⟨a, _, rfl, .inl h1, fun p bs hp hk => ?_⟩
    obtain ⟨Hz1, e1, r1, l1⟩ := adopt_keys r hk
    have ek : ((ks.zip vs).map fun p => D.tup (p.1.map keyD)) = ks.map fun k => D.tup (k.map keyD) := by
      have := List.map_fst_zip (l₁ := ks) (l₂ := vs) (by omega)
      have e2 : ((ks.zip vs).map fun p => D.tup (p.1.map keyD)) = ((ks.zip vs).map Prod.fst).map fun k => D.tup (k.map keyD) := by rw [List.map_map]; rfl
      rw [e2, this]
    rw [ek] at l1
    exact q _ _ Hz1 e1 (Ex.new hp) (new_lst r1 hp l1)
  · cases hz
end
theorem bt_len : bootBuiltins "len" = some (.builtin "len") := by decide +kernel
theorem bt_abs : bootBuiltins "abs" = some (.builtin "abs") := by decide +kernel
theorem bt_sum : bootBuiltins "sum" = some (.builtin "sum") := by decide +kernel
theorem bt_min : bootBuiltins "min" = some (.builtin "min") := by decide +kernel
theorem bt_max : bootBuiltins "max" = some (.builtin "max") := by decide +kernel
theorem bt_any : bootBuiltins "any" = some (.builtin "any") := by decide +kernel
theorem bt_all : bootBuiltins "all" = some (.builtin "all") := by decide +kernel
theorem bt_sorted : bootBuiltins "sorted" = some (.builtin "sorted") := by decide +kernel
theorem bt_isinstance : bootBuiltins "isinstance" = some (.builtin "isinstance") := by decide +kernel
theorem bt_list : bootBuiltins "list" = some (.type "list") := by decide +kernel
theorem bt_tuple : bootBuiltins "tuple" = some (.type "tuple") := by decide +kernel
theorem bt_int : bootBuiltins "int" = some (.type "int") := by decide +kernel
theorem bt_bool : bootBuiltins "bool" = some (.type "bool") := by decide +kernel
theorem bt_str : bootBuiltins "str" = some (.type "str") := by decide +kernel
/-! ### what is left of the rules -/
section
variable {X : Cx} {W : WX} {U : List Nat} {s sa : Bool} {pos : Pos} {a : Expr} {fa : EF}
theorem se_gint {x : Str} {n : Int} (hm : ∃ t, X.mg x = some (.int n t)) (hg : Gl X x := by rfl) (hd : (x == ("__debug__" : Str)) = false := by decide) : SE X W s (.Name x pos) (eC (.int n)) := by
  obtain ⟨t, e⟩ := hm
  exact se_c (v := .int n) (pe_glob hg e ⟨t, rfl⟩ hd) fun _ => .int n
def oNeg : Op1 := fun x => match x.d with
  | .int i => some (pureV (.int (-i)))
  | _ => none
theorem se_neg (ha : SE X W sa a fa) (hs : s = true → sa = true := by first | exact fun _ => rfl | (intro z; cases z)) : SE X W s (.UnaryOp .USub a pos) (e1 oNeg fa) := by
  refine peImp (pe_un un_neg ha) fun σ H Q q => ?_
  refine one' (fa := fa) q hs fun v x ρ1 es1 Fr Hz1 H1 S o q => ?_
  obtain ⟨z, hz⟩ := opE_some q
  have hz' := hz
  unfold oNeg at hz
  split at hz
  · rename_i i e
    cases hz
    exact ⟨i, o.view.int e, fin2 hz' (Ex.refl _) (fun _ => Ex.refl _) S q _ H1 Hz1 (Ex.refl _) (Ex.refl _) (.pure (.int _) o.rest)⟩
  · cases hz
/-- xs[::-1] -/
def oRev : Op1 := fun x => match x.d with
  | .lst ds => if x.q ≤ 1 then some ⟨1, false, .lst ds.reverse⟩ else none
  | _ => none
theorem se_rev {k : Nat} {p1 p2 p3 : Pos} (ha : SE X W sa a fa) (hs : s = true → sa = true := by first | exact fun _ => rfl | (intro z; cases z)) : SE X W s (.Subscript a (.Slice none none (some (.UnaryOp .USub (.Constant (.int 1) k p1) p2)) p3) pos) (e1 oRev fa) := by
  refine peImp (pe_revL ha) fun σ H Q q => ?_
  refine one' (fa := fa) q hs fun v x ρ1 es1 Fr Hz1 H1 S o q => ?_
  obtain ⟨z, hz⟩ := opE_some q
  have hz' := hz
  unfold oRev at hz
  split at hz
  · rename_i ds e
    split at hz
    · rename_i c
      cases hz
      obtain ⟨a, vs, A, rfl, h1, ow⟩ := o.view.lst o.rest.ex e
      exact ⟨a, vs, rfl, .of h1, fun p hp => fin2 hz' (Ex.refl _) (fun _ => Ex.refl _) S q _ _ Hz1 (Ex.refl _) (Ex.new hp) (new_lst o.rest hp (ow.low c rfl).reverse)⟩
    · cases hz
  · cases hz
theorem SA.weak {W : WX} {es : List Expr} {as : List Ar} (h : SA X W true es as) : SA X W false es as := paImp h fun σ H Q ⟨ρ, es, Fr, Hz, S, r, q⟩ => ⟨ρ, es, Fr, Hz, S, r, by
  revert q
  generalize evA as ρ = rr
  intro q
  cases rr with
  | stuck => exact q
  | exc => exact q
  | ok xs ρ' => exact fun vs H' Hz' es' ez _ S l t r => q vs H' Hz' es' ez (fun z => by cases z) S l t r⟩
/-- d.get(k) -/
def isDct : D → Bool
  | .dk _ _ => true
  | .dt _ _ => true
  | _ => false
def oGet1 : Op2 := fun x y => match dGet x.d y.d with
  | some (some d) => part x d
  | some none => some (pureV .non)
  | none => none
def eGet1 (fa fb : EF) : EF := fun ρ => (fa ρ).bind fun x ρ1 => if isDct x.d = true then (fb ρ1).bind fun y ρ2 => opE (oGet1 x y) ρ2 else .stuck
theorem se_get1 {b : Expr} {fb : EF} {apos : Pos} (hu : X.A.units + 1 < cLine) (ha : SE X W sa a fa) (hb : SE X W true b fb) (m : M1 X a "get" apos b pos) (hs : s = true → sa = true := by first | exact fun _ => rfl | (intro z; cases z)) : SE X W s (.Call (.Attribute a "get" apos) [b] [] pos) (eGet1 fa fb) := by
  refine peImp (pe_dget1 hu ha hb m) fun σ H Q ⟨ρ, es, Fr, Hz, S, r, q⟩ => ?_
  refine RetE.step S r q hs fun v x ρ1 es1 Hz1 H1 ez k1 S1 o1 q => ?_
  split at q
  · rename_i hd
    have hD : ∃ a, v = .ref a ∧ IsD H1 a := by
      unfold isDct at hd
      split at hd
      · rename_i ks ds e
        obtain ⟨a, vs, A, rfl, h1, l, ow⟩ := o1.view.dk o1.rest.ex e
        exact ⟨a, rfl, .inl ⟨_, .inl h1⟩⟩
      · rename_i ks ds e
        obtain ⟨a, vs, A, rfl, h1, l, ow⟩ := o1.view.dt o1.rest.ex e
        exact ⟨a, rfl, .inr ⟨_, .inl h1⟩⟩
      · cases hd
    obtain ⟨a', rfl, hD⟩ := hD
    refine ⟨a', rfl, hD, RetE.step S1 o1.rest q (fun _ => rfl) fun w y ρ2 es2 Hz2 H2 ez2 k2 S2 o2 q2 => ?_⟩
    obtain ⟨z, hz⟩ := opE_some q2
    have hz' := hz
    have v1 := o1.view.mono ez2 (k2 rfl)
    have fin := fin2 hz' (Ex.refl _) (fun _ => Ex.refl _) S2 q2
    unfold oGet1 at hz
    split at hz
    · rename_i d e
      obtain ⟨a'', p, e1, hg, _, i1, _⟩ := dGet_ok o2.rest v1 o2.view e
      cases e1
      obtain ⟨u, B, rfl, hB⟩ := i1 d rfl
      exact ⟨_, hg, fin u H2 Hz2 (Ex.refl _) (Ex.refl _) (part_ok o2.rest hB hz)⟩
    · rename_i e
      cases hz
      obtain ⟨a'', p, e1, hg, _, _, i2⟩ := dGet_ok o2.rest v1 o2.view e
      cases e1
      rw [i2 rfl] at hg
      exact ⟨_, hg, fin .non H2 Hz2 (Ex.refl _) (Ex.refl _) (.pure .non o2.rest)⟩
    · cases hz
  · exact q.elim
/-- a list handed on as one that is read only -/
def eFrl (fa : EF) : EF := fun ρ => (fa ρ).bind fun x ρ1 => match x.d with
  | .lst ds => if x.b = true then .stuck else .ok (pureV (.frl ds)) ρ1
  | _ => .ok x ρ1
theorem se_frl {e : Expr} (h : SE X W s e fa) : SE X W s e (eFrl fa) := by
  refine peImp h fun σ H Q ⟨ρ, es, Fr, Hz, S, r, q⟩ => ⟨ρ, es, Fr, Hz, S, r, ?_⟩
  unfold eFrl at q
  cases e : fa ρ with
  | stuck => rw [e] at q; exact q
  | exc C ns xs ρ' => rw [e] at q; exact q
  | ok x ρ' =>
    rw [e] at q
    dsimp only [RE.bind] at q
    intro v H' Hz' es' ez k S' o
    split at q
    · rename_i ds ed
      split at q
      · exact q.elim
      · rename_i hb
        obtain ⟨Hz2, ez2, r2⟩ := (o.own (by simpa using hb)).weaken 0 (.inl (Nat.zero_le _))
        have rp := r2.rp0
        rw [ed] at rp
        cases rp with
        | lst g1 rl => exact q _ H' Hz2 es' (ez.trans ez2) k S' (.pure (.frl (.of g1) rl) r2.tail)
    · exact q v H' Hz' es' ez k S' o
/-- a try whose body raises nothing -/
def sTry (f : SF) : SF := fun ρ => match f ρ with
  | .exc _ _ _ _ => .stuck
  | r => r
theorem ss_try {body : List Stmt} {h0 : ExceptHandler} {hs : List ExceptHandler} {f : SF} (hb : SB X.nox (fun _ _ _ _ => False) U body f) : SS X W U (.Try body (h0 :: hs) [] [] pos) (sTry f) := by
  refine psImp (ps_try_thru0 hb) fun D σ H ⟨ρ, es, Fr, Hz, S, r, q⟩ => ⟨ρ, es, Fr, Hz, S, r, ?_⟩
  unfold sTry at q
  cases e : f ρ with
  | exc C ns xs ρ' => rw [e] at q; exact q.elim
  | _ => rw [e] at q; exact q
theorem pgT_nm {x : Str} {p : Pos} (i : Nat) (hN : X.N.Nodup) (hi : X.N[i]? = some x := by rfl) (hx : Loc X.env.scope x := by first | exact Or.inl rfl | exact Or.inr rfl) (hf : X.fn x = true ∨ X.env.scope.names.lookup x = some .local := by first | exact .inl rfl | exact .inr rfl) : PG X (.Name x p) (gT X.K (.nm i)) := pg_name hN hi hx hf
end
def blkB (N : List Str) (sc scope : Scope) (own : List (Str × Nat)) : Bool := decide (scope.kind = .function) && (scope.names.all (fun y => decide (scope.names.lookup y.1 = some y.2)) && (own.all (fun p => decide (N[p.2]? = some p.1)) &&
  (scope.names.all (fun y => !decide (y.2 = .free) || (decide (sc.names.lookup y.1 = some .cell) || decide (sc.names.lookup y.1 = some .free))) && scope.names.all (fun y => !(decide (y.2 = .local) || decide (y.2 = .cell)) || (decide (y.1 ∈ own.map (·.1)) || !decide (y.1 ∈ N))))))
theorem blk_ok {N : List Str} {sc scope : Scope} {own : List (Str × Nat)} (h : blkB N sc scope own = true) : BlkOk N sc scope own := by
  unfold blkB at h
  simp only [Bool.and_eq_true, List.all_eq_true, decide_eq_true_eq, Bool.or_eq_true, Bool.not_eq_true', decide_eq_false_iff_not] at h
  obtain ⟨h1, h2, h3, h4, h5⟩ := h
  exact ⟨h1, h2, h3, fun y hy e => (h4 y hy).elim (fun z => absurd e z) id, fun y hy e => (h5 y hy).elim (fun z => by rcases e with e | e <;> simp [e] at z) id⟩
/-! ### walks over lists and tuples alike -/
section
variable {X : Cx} {W : WX} {s : Bool} {a tg : Expr} {fa : EF}
def iAny (K : PySem.W.Frag) (tl : TE) : TI := fun σ H R => tl σ H fun x H1 => ∃ a, x = .ref a ∧ (((∃ xs, SqL K H1 a xs) ∧ R (Itl K a) H1) ∨ ((∃ xs, SqT K H1 a xs) ∧ R (Itt K a) H1))
theorem pi_any {l : Expr} {tl : TE} (hl : PE X l tl) : PI X tg l (iAny X.K tl) := by
  refine ⟨fun pins s σ H R I h => ?_⟩
  refine thn (hl.run pins s σ H _ I h) fun v s1 ⟨x, H1, I1, r1, a, e, q⟩ => ?_
  subst e
  cases r1
  have born := I1.hok.fresh (Nat.le_refl _)
  rcases q with ⟨⟨ws, hw⟩, go⟩ | ⟨⟨ws, hw⟩, go⟩
  · obtain ⟨us, _, pl, _⟩ := I1.list hw
    refine wpAny_pyIter_list pl.isList ⟨_, [_], _, _, H1, rfl, ?_, turn_list a _, ⟨_, Heap.get?_push_size _ rfl, rfl, rfl⟩, ?_, go⟩
    · exact I1.kept (t' := s1.toks) fun c u hc => Heap.get?_push_of_some _ hc
    · intro c hc
      rw [List.mem_singleton.mp hc]
      exact I1.fpOk (Nat.le_refl _) born
  · obtain ⟨us, _, pl, _⟩ := I1.tuple hw
    refine wpAny_pyIter_tuple (show s1.heap.IsTuple a us.toArray from pl) ⟨_, [_], _, _, H1, rfl, ?_, turn_tuple a _, ⟨_, Heap.get?_push_size _ rfl, rfl, rfl⟩, ?_, go⟩
    · exact I1.kept (t' := s1.toks) fun c u hc => Heap.get?_push_of_some _ hc
    · intro c hc
      rw [List.mem_singleton.mp hc]
      exact I1.fpOk (Nat.le_refl _) born
def iA (fa : EF) : IF := fun ρ => (fa ρ).bindI fun x ρ1 => if x.b = true then .stuck else match x.d with
  | .lst ds => if x.q ≤ 1 then .ok ds x ρ1 else .stuck
  | .frl ds => .ok ds x ρ1
  | .tup ds => .ok ds (pureV x.d) ρ1
  | _ => .stuck
theorem si_any (ha : SE X W s a fa) : SI X W s tg a (iA fa) := by
  refine piImp (pi_any ha) fun σ H Q q => ?_
  refine oneI q _root_.id fun v x ρ1 es1 Fr Hz1 H1 S o q => ?_
  split at q
  · exact q.elim
  · rename_i hb
    have o' := o.own (by simpa using hb)
    split at q
    · rename_i ds e
      split at q
      · rename_i c
        obtain ⟨a, vs, A, rfl, h1, ow⟩ := o.view.lst o.rest.ex e
        exact ⟨a, rfl, .inl ⟨⟨vs, .of h1⟩, q _ _ H1 Hz1 es1 (Ex.refl _) (fun _ => Ex.refl _) S o' (walks_lst e c)⟩⟩
      · exact q.elim
    · rename_i ds e
      obtain ⟨a, vs, rfl, h1, l⟩ := o.view.frl e
      exact ⟨a, rfl, .inl ⟨⟨vs, o.rest.ex.sql h1⟩, q _ _ H1 Hz1 es1 (Ex.refl _) (fun _ => Ex.refl _) S o' (walks_frl (vs := vs) e)⟩⟩
    · rename_i ds e
      have rz := o.view.imm (by rw [e]; rfl)
      obtain ⟨a, vs, rfl, h1, l⟩ := o.view.tup e
      exact ⟨a, rfl, .inr ⟨⟨vs, .of (o.rest.ex _ _ h1)⟩, q _ (.ref a) H1 Hz1 es1 (Ex.refl _) (fun _ => Ex.refl _) S (o.rest.put (.inl rfl) rz) (walks_tup (x := pureV x.d) e)⟩⟩
    · exact q.elim
end
/-! ### the law's end -/
theorem frl_ints {K : PySem.W.Frag} {Hz : Hp} {a : Addr} {ns : List Int} (h : SqL K Hz a (ns.map V.int)) : Rp K Hz (.ref a) (.frl (ns.map D.int)) := .frl h (rpl_ints ns)
theorem end_law {K : PySem.W.Frag} {cl : List RV → RC} {n : Nat} (h : ∀ ns : List Int, ns.length ≤ n → ∃ os, cl [pureV (.frl (ns.map .int))] = .ok (pureV (.bl true)) os) : ∀ (H : Hp) (a : Addr) (ns : List Int), ns.length ≤ n → SqL K H a (ns.map V.int) → spF K 1 cl [.ref a] H (fun v _ => v = .bl true) fun _ _ _ => False := by
  intro H a ns hn hs
  obtain ⟨os, e⟩ := h ns hn
  refine ⟨[pureV (.frl (ns.map .int))], [], H, rfl, rfl, ?_, ?_⟩
  · refine R.put (.inl rfl) (frl_ints hs) ⟨Ex.refl _, [], .nil, List.nodup_nil, fun a ha => by cases ha⟩
  · rw [e]
    refine ⟨rfl, fun v H' Hz' ez r => ?_⟩
    have := R.imm (d := .bl true) rfl r
    cases this
    rfl
end Pd
end
section
/-! Pd: a comprehension over the keys of a dict that is a variable's field; the dict is locked meanwhile. -/
namespace Pd
open PySem L2 PyProof.Rows PySem.Spec
def keyTD (k : List Key) : D := .tup (k.map keyD)
def lckOut (r : RE) : Option (List D) := match r with
  | .ok ⟨1, false, .lst out⟩ _ => some out
  | _ => none
/-- the comprehension, the dict's place taken -/
def lckRun (vs : List Nat) (t : Tg) (i : Nat) (C : Nm) (ns : List Nm) (ds : List D) (j : Nat) (ks : List (List Key)) (fe : EF) (ρ : Vr) (x : V) : RE :=
  compL vs t (eC (.bl true)) fe (ks.map keyTD) [] (wipeV (ρ.set i (some (2, .ins C ns (ds.set j (.hole x))))) vs)
open Classical in
noncomputable def eLcK (ft : Nm → List Nm) (vs : List Nat) (t : Tg) (i : Nat) (n : Nm) (fe : EF) : EF := fun ρ => match ρ[i]? with
  | some (some (2, .ins C ns ds)) => match ixNm n ns with
    | some j => match ds[j]? with
      | some (.dt ks es) => match lckOut (lckRun vs t i C ns ds j ks fe ρ .non) with
        | some out => if n ∈ ft C ∧ i ∉ vs ∧ ∀ x, lckRun vs t i C ns ds j ks fe ρ x = .ok ⟨1, false, .lst out⟩ (wipeV (ρ.set i (some (2, .ins C ns (ds.set j (.hole x))))) vs) then .ok ⟨1, false, .lst out⟩ (wipeV ρ vs) else .stuck
        | none => .stuck
      | _ => .stuck
    | none => .stuck
  | _ => .stuck
theorem wipeV_get {ρ : Vr} {i : Nat} : ∀ {vs : List Nat}, i ∉ vs → (wipeV ρ vs)[i]? = ρ[i]?
  | [], _ => rfl
  | v :: vs, h => by
    unfold wipeV
    rw [List.getElem?_set_ne (fun (e : v = i) => h (by rw [e]; exact List.mem_cons_self)), wipeV_get fun q => h (List.mem_cons_of_mem _ q)]
theorem wipeV_set {ρ : Vr} {i : Nat} {x : Slot} : ∀ {vs : List Nat}, i ∉ vs → wipeV (ρ.set i x) vs = (wipeV ρ vs).set i x
  | [], _ => rfl
  | v :: vs, h => by
    unfold wipeV
    rw [wipeV_set fun q => h (List.mem_cons_of_mem _ q), List.set_comm]
    exact fun (e : i = v) => h (by rw [e]; exact List.mem_cons_self)
section
variable {X : Cx} {W : WX} {s sb sc : Bool} {pos apos : Pos} {K : PySem.W.Frag}
theorem walks_lkt {b : Addr} {od : Obj} {kvs : List (List Key × V)} : Walks K (Itkt b od kvs) (.ref b) ⟨1, false, .lkt od kvs⟩ (kvs.map fun p => keyTD p.1) := by
  intro i es Hz H r
  obtain ⟨A, hA⟩ := r.head
  have hb : H b = some (.frz od (.dT kvs)) := by
    have := hA.rp r.ex
    cases this with
    | lkt h => exact h
  refine ⟨fun d hd => ?_, fun hl => ⟨hb, by simpa using hl⟩⟩
  rw [List.getElem?_map] at hd
  obtain ⟨p, hp, rfl⟩ := Option.map_eq_some_iff.mp hd
  refine ⟨⟨hb, (List.getElem?_eq_some_iff.mp hp).1⟩, fun x H' hy => ?_⟩
  obtain ⟨rfl, k, v, q, h1, rfl, h2⟩ := hy
  rw [hp] at h1
  cases h1
  obtain ⟨Hz', e1, r1, h3⟩ := r.adopt h2
  exact ⟨Hz', e1, Ex.refl _, .tup h3 (keysD_rp _), r1⟩
theorem lck_core {ft : Nm → List Nm} {vs : List Nat} {t : Tg} {fe : EF} {σ : L2.St} {H : Hp} {Q : VK} (F : FldOk X.K ft) (i : Nat) (n : Nm) (hv : ∀ i ∈ t.all, i ∈ vs) (q : tE X.K W false (eLcK ft vs t i n fe) σ H Q) :
    tLockE (tLc (iKeys (tFld X.K (tVar i) n.str)) (gT X.K t) (tT X.K W0 true (eC (.bl true))) (tE X.K W0 sc fe) vs) σ H Q := by
  obtain ⟨ρ, es, Fr, Hz, S, r, q⟩ := q
  unfold eLcK at q
  split at q
  · rename_i C ns ds e1
    split at q
    · rename_i j e2
      split at q
      · rename_i ks ess e3
        split at q
        · rename_i out e4
          split at q
          · rename_i c
            obtain ⟨c1, c2, c3⟩ := c
            obtain ⟨root, es', h1, h2, h3⟩ := S.take e1
            have r1 := r.perm (mid h2)
            obtain ⟨A, hA⟩ := r1.head
            obtain ⟨a, dx, vvs, B, rfl, _, ha, l, ow⟩ := Own.ins_inv (m := 1) hA
            obtain ⟨v, B', hvj, hvB⟩ := ow.getV e3
            obtain ⟨b, ws, B'', rfl, _, hbH, lk, owk⟩ := Own.dt_inv (m := 0) hvB
            have hat : AtV H (.ref a) [j] (.ref b) := ⟨a, _, .ref b, rfl, ha, by
              show (((ns.map Nm.str).zip vvs).map Prod.snd)[j]? = some (.ref b)
              rw [zip_snd (by rw [List.length_map]; exact l)]
              exact hvj, rfl⟩
            have hgp : getP (.ins C ns ds) [j] = some (.dt ks ess) := by
              show (ds[j]?).bind (fun c => getP c []) = _
              rw [e3]; rfl
            have r2 := r1.at hat hgp (by simp)
            have esp : setP (.ins C ns ds) [j] (.hole (.ref b)) = .ins C ns (ds.set j (.hole (.ref b))) := rfl
            rw [esp] at r2
            refine ⟨b, _, hbH, trivial, fun od => ?_⟩
            have r3 : R X.K (⟨.ref b, 1, .lkt od (ks.zip ws)⟩ :: (⟨.ref a, 2, .ins C ns (ds.set j (.hole (.ref b)))⟩ :: (es' ++ Fr))) Hz (upd H b (.frz od (.dT (ks.zip ws)))) := by
              refine R.change2 (fs := []) (es := ⟨.ref a, 2, .ins C ns (ds.set j (.hole (.ref b)))⟩ :: (es' ++ Fr)) (d := .dt ks ess) r2 fun A C' hA hC n => ?_
              obtain ⟨b', ws', B3, eb, rfl, h4, _, ow4⟩ := Own.dt_inv (m := 0) hA
              cases eb
              cases hC
              obtain ⟨rfl, _⟩ := ow4.zero
              exact ⟨[b], [], by simp, List.mem_cons_self, .lkt upd_same⟩
            have hzv : RpL X.K Hz ws ess := owk.zero.2
            have hi : i < ρ.length := (List.getElem?_eq_some_iff.mp e1).1
            obtain ⟨es3, S3, p3⟩ := h3.put (v := .ref a) (m := 2) (d := .ins C ns (ds.set j (.hole (.ref b)))) (by rw [List.getElem?_set_self hi]) h1
            rw [List.set_set] at S3
            have r4 : R X.K (⟨.ref b, 1, .lkt od (ks.zip ws)⟩ :: (es3 ++ Fr)) Hz (upd H b (.frz od (.dT (ks.zip ws)))) := r3.perm ((mid p3).symm.cons _)
            have ha2 : upd H b (.frz od (.dT (ks.zip ws))) a = some (.ins (ca X.K C) dx ((ns.map Nm.str).zip vvs)) := by
              rw [upd_ne fun e => by rw [e, hbH] at ha; cases ha]; exact ha
            obtain ⟨k1, k2⟩ := F.cls C n c1
            refine ⟨.ref a, h1, a, _, dx, _, .ref b, rfl, ha2, k1, k2, ixNm_ok (F.inj n) e2 hvj, b, od, rfl, .inr ⟨ks.zip ws, upd_same, ?_⟩⟩
            have ekv : ((ks.zip ws).map fun p => keyTD p.1) = ks.map keyTD := by
              have := List.map_fst_zip (l₁ := ks) (l₂ := ws) (by omega)
              have e5 : ((ks.zip ws).map fun p => keyTD p.1) = ((ks.zip ws).map Prod.fst).map keyTD := by rw [List.map_map]; rfl
              rw [e5, this]
            have wk := walks_lkt (K := X.K) (b := b) (od := od) (kvs := ks.zip ws)
            rw [ekv] at wk
            have c4 := c3 (.ref b)
            unfold lckRun at c4
            refine lc_coreH (s := false) (sb := true) (sc := sc) (ft := eC (.bl true)) (fe := fe) (Fr := Fr) (W := W) (Q := fun v H' => H' b = some (.frz od (.dT (ks.zip ws))) ∧ Q v (upd H' b (.dT (ks.zip ws)))) hv (fun z => by cases z) S3 r4 wk ?_
            rw [c4]
            intro v2 H' Hz' es4 ez _ S4 o4
            have r5 := o4.own rfl
            have r6 : R X.K (⟨.ref b, 1, .lkt od (ks.zip ws)⟩ :: ⟨v2, 1, .lst out⟩ :: (es4 ++ Fr)) Hz' H' := (r5.perm (List.perm_middle.cons _)).swap
            obtain ⟨A4, hA4⟩ := r6.head
            have hb4 : H' b = some (.frz od (.dT (ks.zip ws))) := by
              have := hA4.rp r6.ex
              cases this with
              | lkt h => exact h
            refine ⟨hb4, ?_⟩
            have r7 : R X.K (⟨.ref b, 1, .dt ks ess⟩ :: ⟨v2, 1, .lst out⟩ :: (es4 ++ Fr)) Hz' (upd H' b (.dT (ks.zip ws))) := by
              refine R.change2 (fs := []) (es := ⟨v2, 1, .lst out⟩ :: (es4 ++ Fr)) (d := .lkt od (ks.zip ws)) r6 fun A C' hA hC n => ?_
              cases hC
              cases hA with
              | fz cc rr => rcases cc with cc | cc <;> cases cc
              | lkt h =>
                refine ⟨[b], [], by simp, List.mem_cons_self, ?_⟩
                exact Own.dt (m := 0) upd_same lk (OwnL.of_zero 0 (RpL.mono ez hzv))
            -- back in its place
            have e6 : (wipeV (ρ.set i (some (2, .ins C ns (ds.set j (.hole (.ref b)))))) vs)[i]? = some (some (2, .ins C ns (ds.set j (.hole (.ref b))))) := by
              rw [wipeV_get c2, List.getElem?_set_self hi]
            obtain ⟨root4, es5, g1, g2, g3⟩ := S4.take e6
            have er : root4 = .ref a := by
              rw [h1] at g1; cases g1; rfl
            subst er
            have r8 : R X.K (⟨.ref b, 1, .dt ks ess⟩ :: ⟨.ref a, 2, setP (.ins C ns ds) [j] (.hole (.ref b))⟩ :: (⟨v2, 1, .lst out⟩ :: (es5 ++ Fr))) Hz' (upd H' b (.dT (ks.zip ws))) := by
              refine r7.perm (List.Perm.cons _ ?_)
              refine ((mid g2).cons _).trans ?_
              exact List.Perm.swap _ _ _
            have r9 := R.unat (p := [j]) (m := 2) (c0 := .dt ks ess) r8 hgp (by simp)
            have ed : setP (.ins C ns ds) [j] (.dt ks ess) = .ins C ns ds := by
              show D.ins C ns (ds.set j _) = _
              have : ds.set j (.dt ks ess) = ds := by
                apply List.ext_getElem?
                intro k
                by_cases hk : j = k
                · subst hk; rw [List.getElem?_set_self (List.getElem?_eq_some_iff.mp e3).1, e3]
                · rw [List.getElem?_set_ne hk]
              exact congrArg (D.ins C ns) this
            rw [ed] at r9
            have hl2 : i < (wipeV ρ vs).length := by
              have := wipeV_get (ρ := ρ) c2
              rw [e1] at this
              exact (List.getElem?_eq_some_iff.mp this).1
            obtain ⟨es6, S6, p6⟩ := g3.put (v := .ref a) (m := 2) (d := .ins C ns ds) (by rw [wipeV_set c2, List.set_set, List.getElem?_set_self hl2]) h1
            have eρ : (((wipeV (ρ.set i (some (2, .ins C ns (ds.set j (.hole (.ref b)))))) vs).set i none).set i (some (2, .ins C ns ds))) = wipeV ρ vs := by
              rw [wipeV_set c2, List.set_set, List.set_set]
              apply List.ext_getElem?
              intro k
              by_cases hk : i = k
              · subst hk; rw [List.getElem?_set_self hl2, wipeV_get c2, e1]
              · rw [List.getElem?_set_ne hk]
            rw [eρ] at S6
            refine q v2 _ Hz' es6 ez (fun z => by cases z) S6 (.of rfl ?_)
            have r10 : R X.K (⟨v2, 1, .lst out⟩ :: ⟨.ref a, 2, .ins C ns ds⟩ :: (es5 ++ Fr)) Hz' (upd H' b (.dT (ks.zip ws))) := r9.swap
            exact r10.perm ((mid p6).symm.cons _)
          · exact q.elim
        · exact q.elim
      · exact q.elim
    · exact q.elim
  · exact q.elim
theorem se_lck {ft : Nm → List Nm} {elt tg : Expr} {scope : Scope} {own : List (Str × Nat)} {t : Tg} {fe : EF} {x : Str} {p : Pos} (F : FldOk X.K ft) (i : Nat) (n : Nm) (hc : X.calm = true) (hN : X.N.Nodup) (hNi : X.N[i]? = some x := by rfl) (hvis : Vis X.env.scope x := by first | exact Or.inl rfl | exact Or.inr (Or.inl rfl) | exact Or.inr (Or.inr rfl))
    (ok : BlkOk X.N X.env.scope scope own) (hg : ∀ s H C cl fp, PG (blkX X scope s H C cl fp) tg (gT X.K t)) (he : ∀ s H C cl fp, SE (blkX X scope s H C cl fp) W0 sc elt fe) (hv : ∀ i ∈ t.all, i ∈ own.map (·.2) := by decide)
    (hd : (x == ("__debug__" : Str)) = false := by decide) (hcd : (x == ("__classdict__" : Str)) = false := by decide)
    (hb : attributeBase (.Name x p) n.str X.env (eval (.Name x p) X.env) = eval (.Name x p) X.env := by rfl) (hf : ∀ z, foldedSetIterable (.Attribute (.Name x p) n.str apos) X.env z = pure z := by intro _; rfl) :
    SE X W false (.ListComp elt [⟨tg, .Attribute (.Name x p) n.str apos, [], 0⟩] scope pos) (eLcK ft (own.map (·.2)) t i n fe) :=
  peImp (pe_lock (pe_lc (tt := tT X.K W0 true (eC (.bl true))) (te := tE X.K W0 sc fe) hc hN (pi_keys (pe_fld (pv i hNi hvis hd hcd) hb)) ok hg (fun s H C cl fp => pts_yes (X := blkX X scope s H C cl fp) (W := W0)) he hf)) fun σ H Q q => lck_core F i n hv q
theorem ss_setLcK {U : List Nat} {y : Str} {py spos : Pos} {ft : Nm → List Nm} {elt tg : Expr} {scope : Scope} {own : List (Str × Nat)} {t : Tg} {fe : EF} {x : Str} {p : Pos} (k : Nat) (F : FldOk X.K ft) (i : Nat) (n : Nm) (hc : X.calm = true) (hN : X.N.Nodup) (hy : X.N[k]? = some y := by rfl) (hyl : X.env.scope.names.lookup y = some .local := by rfl)
    (hNi : X.N[i]? = some x := by rfl) (hvis : Vis X.env.scope x := by first | exact Or.inl rfl | exact Or.inr (Or.inl rfl) | exact Or.inr (Or.inr rfl))
    (hsw : swapsWith (.ListComp elt [⟨tg, .Attribute (.Name x p) n.str apos, [], 0⟩] scope pos) (some (.Name y py)) spos.line X.env = pure true := by rfl)
    (ok : BlkOk X.N X.env.scope scope own) (hg : ∀ s H C cl fp, PG (blkX X scope s H C cl fp) tg (gT X.K t)) (he : ∀ s H C cl fp, SE (blkX X scope s H C cl fp) W0 sc elt fe) (hv : ∀ i ∈ t.all, i ∈ own.map (·.2) := by decide) (hu : k ∉ U := by decide)
    (hd : (x == ("__debug__" : Str)) = false := by decide) (hcd : (x == ("__classdict__" : Str)) = false := by decide)
    (hb : attributeBase (.Name x p) n.str X.env (eval (.Name x p) X.env) = eval (.Name x p) X.env := by rfl) (hf : ∀ z, foldedSetIterable (.Attribute (.Name x p) n.str apos) X.env z = pure z := by intro _; rfl) :
    SS X W U (.Assign [.Name y py] (.ListComp elt [⟨tg, .Attribute (.Name x p) n.str apos, [], 0⟩] scope pos) spos) (sAs k (eLcK ft (own.map (·.2)) t i n fe)) :=
  psImp (ps_lock (ps_setLc (tt := tT X.K W0 true (eC (.bl true))) (te := tE X.K W0 sc fe) hc hN hy hyl hsw (pi_keys (pe_fld (pv i hNi hvis hd hcd) hb)) ok hg (fun s H C cl fp => pts_yes (X := blkX X scope s H C cl fp) (W := W0)) he hf)) fun Z σ H q => by
    have q' : tAsg (tE X.K W false (eLcK ft (own.map (·.2)) t i n fe)) (gName k) Z σ H := asg_core hu q
    exact lck_core (Q := fun v H1 => gName k v σ H1 Z.nx) F i n hv q'
end
end Pd
end
section
/-! Pd: a list of anything held against an empty one. -/
namespace Pd
open PySem L2 PyProof.Rows PySem.Spec
def rEqN (K : PySem.W.Frag) (neg : Bool) : R2 := fun x y H Q => ∃ a b xs, x = .ref a ∧ y = .ref b ∧ SqL K H a xs ∧ SqL K H b [] ∧ Q (.bl (xs.isEmpty != neg)) H
section
variable {X : Cx}
theorem op_eqN (hu : X.A.units + 64 < cLine) : OpR X (compareOp .Eq) (rEqN X.K false) := by
  intro pins s σ H x y v u Q I rx ry h
  obtain ⟨a, b, xs, rfl, rfl, ha, hb, q⟩ := h
  cases xs with
  | nil => exact op_eqD hu pins s σ H _ _ v u Q I rx ry ⟨.list [], .list [], .lst ha .nil, .lst hb .nil, by decide +kernel, by decide +kernel, by simpa [PyData.eqv, PyData.eqvAll] using q⟩
  | cons z zs =>
    cases (show v = Value.ref a from rx)
    cases (show u = Value.ref b from ry)
    obtain ⟨us, r1, p1, _⟩ := I.list ha
    obtain ⟨ws, r2, p2, _⟩ := I.list hb
    have hsz : (us.toArray.size != ws.toArray.size) = true := by
      rw [List.size_toArray, List.size_toArray, ← r1.length, ← r2.length]; simp
    exact SeqAt.RcAt.lists_lengths p1.isList p2.isList hsz (Nat.lt_of_le_of_lt (Nat.le_add_right _ 64) hu) X.prog X.w _ _ ⟨.bl false, H, I, rfl, q⟩
theorem op_neN (hu : X.A.units + 64 < cLine) : OpR X (compareOp .NotEq) (rEqN X.K true) := by
  intro pins s σ H x y v u Q I rx ry h
  obtain ⟨a, b, xs, rfl, rfl, ha, hb, q⟩ := h
  cases xs with
  | nil => exact op_neD hu pins s σ H _ _ v u Q I rx ry ⟨.list [], .list [], .lst ha .nil, .lst hb .nil, by decide +kernel, by decide +kernel, by simpa [PyData.eqv, PyData.eqvAll] using q⟩
  | cons z zs =>
    cases (show v = Value.ref a from rx)
    cases (show u = Value.ref b from ry)
    obtain ⟨us, r1, p1, _⟩ := I.list ha
    obtain ⟨ws, r2, p2, _⟩ := I.list hb
    have hsz : (us.toArray.size != ws.toArray.size) = true := by
      rw [List.size_toArray, List.size_toArray, ← r1.length, ← r2.length]; simp
    exact SeqAt.RcNeAt.lists_lengths p1.isList p2.isList hsz (Nat.lt_of_le_of_lt (Nat.le_add_right _ 64) hu) X.prog X.w _ _ ⟨.bl true, H, I, rfl, q⟩
end
def oEqN (neg : Bool) : Op2 := fun x y => match lsOf x.d, lsOf y.d with
  | some ds, some [] => some (pureV (.bl (ds.isEmpty != neg)))
  | _, _ => none
theorem ok_eqN {K : PySem.W.Frag} {neg : Bool} : OpOk K (rEqN K neg) (oEqN neg) := by
  intro v w x y z es Hz H Q r hx hy hz q
  unfold oEqN at hz
  split at hz
  · rename_i ds e1 e2
    cases hz
    obtain ⟨a, vs, A, m, rfl, h1, ow⟩ := ls_ok r.ex hx e1
    obtain ⟨b, ws, B, m', rfl, h2, ow2⟩ := ls_ok r.ex hy e2
    have ew : ws = [] := List.length_eq_zero_iff.mp ow2.length
    have ev : vs.isEmpty = ds.isEmpty := by
      have hl := ow.length
      cases vs <;> cases ds <;> first | rfl | simp at hl
    subst ew
    refine ⟨a, b, vs, rfl, rfl, h1, h2, ?_⟩
    rw [ev]
    exact q _ H Hz (Ex.refl _) (Ex.refl _) (.pure (.bl _) r)
  · cases hz
section
variable {q q' : Nat} {b b' neg : Bool} {ds : List D}
@[simp] theorem oEqN_l : oEqN neg ⟨q, b, .lst ds⟩ ⟨q', b', .lst []⟩ = some (pureV (.bl (ds.isEmpty != neg))) := rfl
end
end Pd
end
section
/-! Pd: a comprehension over a list that a variable owns, and owns again behind it. -/
namespace Pd
open PySem L2 PyProof.Rows PySem.Spec
def eLcB (vs : List Nat) (t : Tg) (i : Nat) (ft fe : EF) : EF := fun ρ => match ρ[i]? with
  | some (some (1, .lst ds)) => if i ∉ vs then match compL vs t ft fe ds [] (wipeV (ρ.set i none) vs) with
    | .ok x ρ' => match ρ'[i]? with
      | some none => .ok x (ρ'.set i (some (1, .lst ds)))
      | _ => .stuck
    | _ => .stuck
    else .stuck
  | _ => .stuck
section
variable {X : Cx} {W : WX} {s sb sc : Bool} {pos : Pos} {K : PySem.W.Frag}
theorem lcb_core {vs : List Nat} {t : Tg} {ft fe : EF} {σ : L2.St} {H : Hp} {Q : VK} (i : Nat) (hv : ∀ i ∈ t.all, i ∈ vs) (q : tE K W false (eLcB vs t i ft fe) σ H Q) :
    tLc (iList K (tVar i)) (gT K t) (tT K W0 sb ft) (tE K W0 sc fe) vs σ H Q := by
  obtain ⟨ρ, es, Fr, Hz, S, r, q⟩ := q
  unfold eLcB at q
  split at q
  · rename_i ds e1
    split at q
    · rename_i c
      obtain ⟨v, es', h1, h2, h3⟩ := S.take e1
      have r1 := r.perm (mid h2)
      obtain ⟨A, hA⟩ := r1.head
      obtain ⟨a, vs', B, rfl, _, ha, ow⟩ := hA.lst_inv
      refine ⟨.ref a, h1, a, rfl, ⟨vs', .of ha⟩, ?_⟩
      refine lc_coreH (s := false) (sb := sb) (sc := sc) (ft := ft) (fe := fe) (Fr := Fr) (W := W) (hold := ⟨1, false, .lst ds⟩) (items := ds) hv (fun z => by cases z) h3 r1 (walks_lst rfl (Nat.le_refl 1)) ?_
      revert q
      generalize compL vs t ft fe ds [] (wipeV (ρ.set i none) vs) = rr
      intro q
      cases rr with
      | stuck => exact q.elim
      | exc C ns xs ρ' => exact q.elim
      | ok x ρ' =>
        dsimp only at q
        split at q
        · rename_i e2
          intro v2 H' Hz' es4 ez k S4 o4
          obtain ⟨es5, S5, p5⟩ := S4.put (v := .ref a) (m := 1) (d := .lst ds) e2 h1
          refine q v2 H' Hz' es5 ez k S5 (o4.perm ?_)
          exact (List.perm_middle).trans ((mid p5).symm)
        · exact q.elim
    · exact q.elim
  · exact q.elim
theorem se_lcB {elt tg : Expr} {ifs : List Expr} {scope : Scope} {own : List (Str × Nat)} {t : Tg} {ft fe : EF} {x : Str} {p : Pos} (i : Nat) (hc : X.calm = true) (hN : X.N.Nodup) (hNi : X.N[i]? = some x := by rfl) (hvis : Vis X.env.scope x := by first | exact Or.inl rfl | exact Or.inr (Or.inl rfl) | exact Or.inr (Or.inr rfl))
    (ok : BlkOk X.N X.env.scope scope own) (hg : ∀ s H C cl fp, PG (blkX X scope s H C cl fp) tg (gT X.K t)) (ht : ∀ s H C cl fp, PTs (blkX X scope s H C cl fp) ifs (tT X.K W0 sb ft)) (he : ∀ s H C cl fp, SE (blkX X scope s H C cl fp) W0 sc elt fe) (hv : ∀ i ∈ t.all, i ∈ own.map (·.2) := by decide)
    (hd : (x == ("__debug__" : Str)) = false := by decide) (hcd : (x == ("__classdict__" : Str)) = false := by decide) (hf : ∀ z, foldedSetIterable (.Name x p) X.env z = pure z := by intro _; rfl) :
    SE X W false (.ListComp elt [⟨tg, .Name x p, ifs, 0⟩] scope pos) (eLcB (own.map (·.2)) t i ft fe) :=
  peImp (pe_lc (tt := tT X.K W0 sb ft) (te := tE X.K W0 sc fe) hc hN (pi_list (pv i hNi hvis hd hcd)) ok hg ht he hf) fun σ H Q q => lcb_core i hv q
end
theorem run_lcB {vs : List Nat} {t : Tg} {i : Nat} {ft fe : EF} {ρ : Vr} : eLcB vs t i ft fe ρ = (match ρ[i]? with
  | some (some (1, .lst ds)) => if i ∉ vs then match compL vs t ft fe ds [] (wipeV (ρ.set i none) vs) with
    | .ok x ρ' => match ρ'[i]? with
      | some none => .ok x (ρ'.set i (some (1, .lst ds)))
      | _ => .stuck
    | _ => .stuck
    else .stuck
  | _ => .stuck) := rfl
end Pd
end
section
/-! Pd: a law's end over a head by facts, its defs such as may raise. -/
namespace Pd
open PySem PySem.Spec PyProof.Rows L2
theorem walk_end {l : PySem.W.OpenLaw} {n k : Nat} {q : Program} {loose : List Str} {XP : (Str → Option Value) → Heap → Prop} {YP : World → Heap → Prop} {d : DefRec} {x : Str}
    (hn : l.most = some n) (hn2 : n ≤ sizeLine) (hdf : d.params.defaults = []) (hr : Room k callerA)
    (F : ∀ (w : World) (mg : Str → Option Value) (fa : Addr) (h : Heap), YP w h → h.Ns mainGlobals mg → mg d.name = some (.ref fa) →
      ∃ (K : PySem.W.Frag) (fd : FuncData) (sp : Sp), K.In h ∧ (∀ (s : Shared) (u : Value), BindsTo s fd ⟨[u], []⟩ [(x, u)]) ∧
        (∀ (H : Hp) (a : Addr) (ns : List Int), ns.length ≤ n → SqL K H a (ns.map V.int) → sp [.ref a] H (fun v _ => v = .bl true) fun _ _ _ => False) ∧
        ∀ base : Heap, K.In base → base.Ns mainGlobals mg → FnOk l.prog w K mg base (L2.CX l.prog w) k fa fd [x] sp) :
    PySem.W.WalkO q loose XP YP l.row.toRowW d [] (fun f vs => PySem.call f vs) := by
  refine Att.attach_call hn hdf fun w s₀ s₁ mg mb fa o pm cd doc a vs ns G Y ho hd hcd hmg hobj hints hlen hg => ?_
  obtain ⟨K, fd, sp, KX, hb, hsp, hF⟩ := F w mg fa _ Y G.T.g hmg
  refine law_call KX G.T.g G.T.b G.T.builtins G.T.nolimit hg hobj hints (Nat.le_trans hlen hn2) hr hF hb (fun H hO hS => hsp H a ns hlen hS) fun H e s' h => ?_
  obtain ⟨_, _, _, _, _, _, _, _, _, _, _, _, z⟩ := h
  exact z.elim
/-- the law's def, its facts told over any heap -/
theorem law_end {P : Program} {w : World} {K : PySem.W.Frag} {mg : Str → Option Value} {h : Heap} {fa0 : Addr} {n k : Nat} {x : Str} {fa : List He.Fa} {ck : List Ck} {fn : List He.DefD} {d : He.DefD} {N : List Str} {fc : FnC} {i j : Nat}
    (KX : K.In h) (G : h.Ns mainGlobals mg) (S : Says fa ck fn K) (hm : mg ("law" : Str) = some (.ref fa0)) (hg : fa[j]? = some (.glo ("law" : Str))) (hd : fn[i]? = some d) (hat : d.at_ = (("law" : Str), none)) (hdf : d.dfl = [])
    (SC : FnScope N [x] d.scope) (h1 : fc.np = 1) (h2 : N.length = fc.ns) (h3 : fc.io.length = 1)
    (hbd : ∀ (kV doc pm : Value) (an : Option Addr) (cdv ct : Value) (us : List Value), us.length = [x].length → bindArgs (PySem.W.fnOf d.name d.qual d.params d.body d.scope .none kV doc pm an cdv ct) ⟨us, []⟩ = pure ([x].zip us))
    (hb : ∀ (base : Heap), Fx fa ck fn K mg → ∀ (cdv : Value) (A : Around) (outer : List Env) (s : Shared) (H : Hp) (E : XK), Room k (A.deeper (envOfC d.qual d.scope s.heap.objs.size (He.fAd K d.at_) cdv)) →
      SB (cxOf (L2.CX P w) P w K mg base N d.qual d.scope (He.fAd K d.at_) cdv A outer s H E) (fun cls d _ H => E cls d H) (ioIx fc.io) d.body fc.body)
    (hl : ∀ ns : List Int, ns.length ≤ n → ∃ os, runFn fc [pureV (.frl (ns.map .int))] = .ok (pureV (.bl true)) os) :
    ∃ (K : PySem.W.Frag) (fd : FuncData) (sp : Sp), K.In h ∧ (∀ (s : Shared) (u : Value), BindsTo s fd ⟨[u], []⟩ [(x, u)]) ∧
        (∀ (H : Hp) (a : Addr) (ns : List Int), ns.length ≤ n → SqL K H a (ns.map V.int) → sp [.ref a] H (fun v _ => v = .bl true) fun _ _ _ => False) ∧
        ∀ base : Heap, K.In base → base.Ns mainGlobals mg → FnOk P w K mg base (L2.CX P w) (k + 1) fa0 fd [x] sp := by
  have F : Fx fa ck fn K mg := ⟨⟨h, KX, G⟩, S⟩
  obtain ⟨fd, Fd⟩ := F.def_ i (d := d) hd
  have e : fa0 = He.fAd K d.at_ := by
    have e1 := hm.symm.trans (F.glo j hg)
    rw [hat]
    cases e1
    rfl
  subst e
  have hdv : d.dvs K = [] := by unfold He.DefD.dvs; rw [hdf]; rfl
  rw [hdv] at Fd
  refine ⟨K, fd, spF K fc.np (runFn fc), KX, fun s u => FunD.bindsA (ps := [x]) Fd hbd s [u] rfl, ?_, fun base kb gb => ?_⟩
  · intro H a ns hn hs
    rw [h1]
    exact end_law (n := n) hl H a ns hn hs
  · exact def_ok Fd SC (by rw [h1]; rfl) h2 (by rw [h3, h1]) ioIx_ok (hb base F)
end Pd
end
section
/-! Pd: how the programs on trees are run by simp. -/
namespace Pd
open PySem L2
theorem nr {α : Type} {a b : α} (h : a = b) : a = b := h
section
variable {fa fb fc : EF} {f g : SF} {ρ ρ1 : Vr} {x y : RV} {d : D}
@[simp] theorem run_seq : sSeq f g ρ = (f ρ).bind g := nr rfl
@[simp] theorem run_nil : sNil ρ = .nx ρ := nr rfl
@[simp] theorem run_never : sNever ρ = .stuck := nr rfl
@[simp] theorem run_bk : sBk ρ = .bk ρ := nr rfl
@[simp] theorem run_ct : sCt ρ = .ct ρ := nr rfl
@[simp] theorem run_rtn : sRtN ρ = .rt (pureV .non) ρ := nr rfl
@[simp] theorem run_rt : sRt fa ρ = (fa ρ).bindS fun x ρ1 => .rt x ρ1 := nr rfl
@[simp] theorem run_ex : sEx fa ρ = (fa ρ).bindS fun _ ρ1 => .nx ρ1 := nr rfl
@[simp] theorem run_as {i : Nat} : sAs i fa ρ = (fa ρ).bindS fun x ρ1 => if x.b = false ∧ i < ρ1.length then .nx (ρ1.set i (some (x.q, x.d))) else .stuck := nr rfl
@[simp] theorem run_if : sIf fc f g ρ = (fc ρ).bindS fun x ρ1 => match x.d with
  | .bl true => f ρ1
  | .bl false => g ρ1
  | _ => .stuck := nr rfl
@[simp] theorem run_try : sTry f ρ = (match f ρ with
  | .exc _ _ _ _ => .stuck
  | r => r) := nr rfl
@[simp] theorem run_c : eC d ρ = .ok (pureV d) ρ := nr rfl
@[simp] theorem run_var {i : Nat} : eVar i ρ = (match ρ[i]? with
  | some (some (m, d)) => if m = 0 ∨ immut d = true then .ok (pureV d) ρ else .ok ⟨m, true, d⟩ ρ
  | _ => .stuck) := nr rfl
@[simp] theorem run_use {i : Nat} : eUse i ρ = (match ρ[i]? with
  | some (some (_, d)) => .ok (pureV d) (ρ.set i (some (0, d)))
  | _ => .stuck) := nr rfl
@[simp] theorem run_mv {i : Nat} : eMv i ρ = (match ρ[i]? with
  | some (some (m, d)) => .ok ⟨m, false, d⟩ (ρ.set i none)
  | _ => .stuck) := nr rfl
@[simp] theorem run_e1 {op : Op1} : e1 op fa ρ = (fa ρ).bind fun x ρ1 => opE (op x) ρ1 := nr rfl
@[simp] theorem run_e2 {sb : Bool} {op : Op2} : e2 sb op fa fb ρ = (fa ρ).bind fun x ρ1 => if (x.b && !sb) = true then .stuck else (fb ρ1).bind fun y ρ2 => opE (op x y) ρ2 := nr rfl
@[simp] theorem run_eif : eIf fc fa fb ρ = (fc ρ).bind fun x ρ1 => match x.d with
  | .bl true => fa ρ1
  | .bl false => fb ρ1
  | _ => .stuck := nr rfl
@[simp] theorem run_fld {ft : Nm → List Nm} {n : Nm} : eFld ft n fa ρ = (fa ρ).bind fun x ρ1 => opE (oFld ft n x) ρ1 := nr rfl
@[simp] theorem run_frl : eFrl fa ρ = (fa ρ).bind fun x ρ1 => match x.d with
  | .lst ds => if x.b = true then .stuck else .ok (pureV (.frl ds)) ρ1
  | _ => .ok x ρ1 := nr rfl
@[simp] theorem run_tup {as : List Ar} : eTup as ρ = (evA as ρ).bind fun xs ρ1 => if xs.length ≤ BIG then .ok (pureV (.tup (xs.map (·.d)))) ρ1 else .stuck := nr rfl
@[simp] theorem run_lst {as : List Ar} : eLst as ρ = (evA as ρ).bind fun xs ρ1 => if xs.length ≤ BIG then .ok ⟨1, false, .lst (xs.map (·.d))⟩ ρ1 else .stuck := nr rfl
@[simp] theorem run_chain {g g' : Int → Int → Bool} : eChain g g' fa fb fc ρ = (fa ρ).bind fun x ρ1 => match x.d with
  | .int i => (fb ρ1).bind fun y ρ2 => match y.d with
    | .int j => if g i j = true then (fc ρ2).bind fun z ρ3 => match z.d with
        | .int k => .ok (pureV (.bl (g' j k))) ρ3
        | _ => .stuck
      else .ok (pureV (.bl false)) ρ2
    | _ => .stuck
  | _ => .stuck := nr rfl
@[simp] theorem run_opS {z : RV} : opE (some z) ρ = .ok z ρ := nr rfl
@[simp] theorem run_opN : opE none ρ = .stuck := nr rfl
@[simp] theorem evA_nil : evA [] ρ = .ok [] ρ := nr rfl
@[simp] theorem evA_ev {r : List Ar} : evA (.ev fa :: r) ρ = (match fa ρ with
    | .ok x ρ1 => if x.b = true then .stuck else match evA r ρ1 with
      | .ok xs ρ2 => .ok (x :: xs) ρ2
      | .exc C ns ys ρ' => .exc C ns ys ρ'
      | .stuck => .stuck
    | .exc C ns ys ρ' => .exc C ns ys ρ'
    | .stuck => .stuck) := nr rfl
@[simp] theorem evA_io {i : Nat} {r : List Ar} : evA (.io i :: r) ρ = (match ρ[i]? with
    | some (some (m, d)) => match evA r (ρ.set i none) with
      | .ok xs ρ2 => .ok (⟨m, false, d⟩ :: xs) ρ2
      | .exc C ns ys ρ' => .exc C ns ys ρ'
      | .stuck => .stuck
    | _ => .stuck) := nr rfl
@[simp] theorem run_call {cl : List RV → RC} {dfl : List D} {as : List Ar} : eCall cl dfl as ρ = (evA as ρ).bind fun xs ρ1 => match cl (xs ++ dfl.map pureV) with
  | .ok x os => if x.b = true then .stuck else .ok x (giveBack as os ρ1)
  | .exc C ns ys => .exc C ns ys ρ1
  | .stuck => .stuck := nr rfl
@[simp] theorem gb_nil {os : List Slot} : giveBack [] os ρ = ρ := by cases os <;> rfl
@[simp] theorem gb_nil2 {as : List Ar} : giveBack as [] ρ = ρ := by
  cases as with
  | nil => rfl
  | cons a as => cases a <;> rfl
@[simp] theorem gb_ev {o : Slot} {os : List Slot} {as : List Ar} : giveBack (.ev fa :: as) (o :: os) ρ = giveBack as os ρ := nr rfl
@[simp] theorem gb_ioN {i : Nat} {os : List Slot} {as : List Ar} : giveBack (.io i :: as) (none :: os) ρ = giveBack as os ρ := nr rfl
@[simp] theorem gb_ioS {i : Nat} {s : Nat × D} {os : List Slot} {as : List Ar} : giveBack (.io i :: as) (some s :: os) ρ = giveBack as os (ρ.set i (some s)) := nr rfl
@[simp] theorem outs_nil : outs [] ρ = [] := nr rfl
@[simp] theorem outs_t {io : List Bool} {s : Slot} : outs (true :: io) (s :: ρ) = s :: outs io ρ := nr rfl
@[simp] theorem outs_f {io : List Bool} {s : Slot} : outs (false :: io) (s :: ρ) = none :: outs io ρ := nr rfl
@[simp] theorem oIdx_lst {q : Nat} {b : Bool} {q' : Nat} {b' : Bool} {ds : List D} {i : Int} : oIdx ⟨q, b, .lst ds⟩ ⟨q', b', .int i⟩ = (atI ds i).bind (part ⟨q, b, .lst ds⟩) := nr rfl
@[simp] theorem oIdx_frl {q : Nat} {b : Bool} {q' : Nat} {b' : Bool} {ds : List D} {i : Int} : oIdx ⟨q, b, .frl ds⟩ ⟨q', b', .int i⟩ = (atI ds i).map pureV := nr rfl
@[simp] theorem oIdx_tup {q : Nat} {b : Bool} {q' : Nat} {b' : Bool} {ds : List D} {i : Int} : oIdx ⟨q, b, .tup ds⟩ ⟨q', b', .int i⟩ = (atI ds i).map pureV := nr rfl
@[simp] theorem part_0 {b : Bool} {d c : D} : part ⟨0, b, d⟩ c = some (pureV c) := by simp [part]
@[simp] theorem part_1 {b : Bool} {d c : D} : part ⟨1, b, d⟩ c = some (pureV c) := by simp [part]
@[simp] theorem part_i {q : Nat} {b : Bool} {d : D} {i : Int} : part ⟨q, b, d⟩ (.int i) = some (pureV (.int i)) := by simp [part, immut]
@[simp] theorem oSub_i {q q' : Nat} {b b' : Bool} {i j : Int} : oSub ⟨q, b, .int i⟩ ⟨q', b', .int j⟩ = some (pureV (.int (i - j))) := nr rfl
@[simp] theorem oNeg_i {q : Nat} {b : Bool} {i : Int} : oNeg ⟨q, b, .int i⟩ = some (pureV (.int (-i))) := nr rfl
@[simp] theorem oB0_i {g : Int → Int → Bool} {q q' : Nat} {b b' : Bool} {i j : Int} : oB0 g ⟨q, b, .int i⟩ ⟨q', b', .int j⟩ = some (pureV (.bl (g i j))) := nr rfl
end
/-- all turns of a loop that is not left early -/
theorem forL_inv {t : Tg} {f : SF} (P : Nat → Vr → Prop) : ∀ (items : List D) (k : Nat) (ρ0 : Vr), P k ρ0 → (∀ (i : Nat) (d : D) (ρ : Vr), items[i]? = some d → P (k + i) ρ → ∃ ρ1 ρ2, bindT t d ρ = some ρ1 ∧ (f ρ1 = .nx ρ2 ∨ f ρ1 = .ct ρ2) ∧ P (k + i + 1) ρ2) → ∃ ρ', forL t f items ρ0 = .nx ρ' ∧ P (k + items.length) ρ'
  | [], k, ρ0, h0, _ => ⟨ρ0, rfl, h0⟩
  | d :: ds, k, ρ0, h0, hs => by
    obtain ⟨ρ1, ρ2, e1, e2, h1⟩ := hs 0 d ρ0 rfl h0
    obtain ⟨ρ', e3, h3⟩ := forL_inv P ds (k + 1) ρ2 h1 fun i d ρ hi hp => by
      have := hs (i + 1) d ρ (by simpa using hi) (by rw [show k + (i + 1) = k + 1 + i by omega]; exact hp)
      rw [show k + (i + 1) + 1 = k + 1 + i + 1 by omega] at this
      exact this
    refine ⟨ρ', ?_, by rw [List.length_cons, show k + (ds.length + 1) = k + 1 + ds.length by omega]; exact h3⟩
    unfold forL
    rw [e1]
    rcases e2 with e2 | e2 <;> (dsimp only; rw [e2]; exact e3)
/-- a comprehension whose elements change nothing: kept where p, then g -/
theorem compL_ok {vs : List Nat} {t : Tg} {ft fe : EF} {ρ : Vr} (p : D → Bool) (g : D → D) : ∀ (items acc : List D), (∀ d ∈ items, ∃ ρ1 q b ρ2, bindT t d ρ = some ρ1 ∧ ft ρ1 = .ok ⟨q, b, .bl (p d)⟩ ρ2 ∧ (p d = false → wipeV ρ2 vs = ρ) ∧
      (p d = true → ∃ q ρ3, fe ρ2 = .ok ⟨q, false, g d⟩ ρ3 ∧ wipeV ρ3 vs = ρ)) → acc.length + items.length ≤ BIG → compL vs t ft fe items acc ρ = .ok ⟨1, false, .lst (acc ++ (items.filter p).map g)⟩ ρ
  | [], acc, _, _ => by simp [compL]
  | d :: ds, acc, h, hl => by
    obtain ⟨ρ1, q, b, ρ2, e1, e2, h1, h2⟩ := h d List.mem_cons_self
    unfold compL
    rw [e1]
    dsimp only
    rw [e2]
    rw [List.length_cons] at hl
    cases hp : p d with
    | false =>
      dsimp only
      rw [h1 hp, compL_ok p g ds acc (fun x hx => h x (List.mem_cons_of_mem _ hx)) (by omega), List.filter_cons_of_neg (by simp [hp])]
    | true =>
      obtain ⟨q3, ρ3, e3, e4⟩ := h2 hp
      dsimp only
      rw [e3]
      dsimp only
      rw [if_pos ⟨rfl, by omega⟩, e4, compL_ok p g ds (acc ++ [g d]) (fun x hx => h x (List.mem_cons_of_mem _ hx)) (by rw [List.length_append, List.length_singleton]; omega), List.filter_cons_of_pos hp, List.map_cons, List.append_assoc]
      rfl
end Pd
namespace Pd
open PySem L2
section
variable {q q' : Nat} {b b' : Bool} {i j : Int}
@[simp] theorem oAdd_i : oAdd ⟨q, b, .int i⟩ ⟨q', b', .int j⟩ = some (pureV (.int (i + j))) := nr rfl
@[simp] theorem oMod_i (h : 0 < j) : oMod ⟨q, b, .int i⟩ ⟨q', b', .int j⟩ = some (pureV (.int (i % j))) := by
  simp [oMod, oI, h]
@[simp] theorem oDiv_i (h : 0 < j) (h2 : j < 1073741824) : oDiv ⟨q, b, .int i⟩ ⟨q', b', .int j⟩ = some (pureV (.int (i / j))) := by
  simp [oDiv, oI, h, h2]
theorem oMul_l (h : i.natAbs < 18446744073709551616) : oMul ⟨q, b, .int i⟩ ⟨q', b', .int j⟩ = some (pureV (.int (i * j))) := by
  simp [oMul, h]
theorem oMul_r (h : j.natAbs < 18446744073709551616) : oMul ⟨q, b, .int i⟩ ⟨q', b', .int j⟩ = some (pureV (.int (i * j))) := by
  simp [oMul, h]
theorem oPow_i (h : 0 ≤ j ∧ j ≤ 1000000 ∧ i.natAbs < 18446744073709551616) : oPow ⟨q, b, .int i⟩ ⟨q', b', .int j⟩ = some (pureV (.int (i ^ j.toNat))) := by
  simp [oPow, oI, h]
@[simp] theorem oLen_l {ds : List D} : oLen ⟨q, b, .lst ds⟩ = some (pureV (.int ds.length)) := nr rfl
@[simp] theorem oLen_f {ds : List D} : oLen ⟨q, b, .frl ds⟩ = some (pureV (.int ds.length)) := nr rfl
@[simp] theorem oLen_t {ds : List D} : oLen ⟨q, b, .tup ds⟩ = some (pureV (.int ds.length)) := nr rfl
@[simp] theorem oEq_i {neg : Bool} : oEqD neg ⟨q, b, .int i⟩ ⟨q', b', .int j⟩ = some (pureV (.bl ((i == j) != neg))) := nr rfl
end
theorem atI_map {α β : Type} (g : α → β) (xs : List α) (i : Int) : atI (xs.map g) i = (atI xs i).map g := by
  unfold atI
  rw [List.length_map]
  cases ixN xs.length i with
  | none => rfl
  | some k => simp
theorem atI_nat {α : Type} (xs : List α) (k : Nat) : atI xs (k : Int) = xs[k]? := by
  unfold atI ixN
  rw [if_pos (Int.natCast_nonneg k)]
  split
  · simp
  · rename_i h
    simp at h
    simp [h]
theorem atI_pos {α : Type} {xs : List α} {i : Int} (h : 0 ≤ i) : atI xs i = xs[i.toNat]? := by
  obtain ⟨k, rfl⟩ := Int.eq_ofNat_of_zero_le h
  exact atI_nat xs k
theorem atI_lit {α : Type} (xs : List α) (k : Nat) [OfNat Int k] (h : (OfNat.ofNat k : Int) = (k : Int)) : atI xs (OfNat.ofNat k : Int) = xs[k]? := by
  rw [h]; exact atI_nat xs k
/-! locators, changes -/
section
variable {fa fb : EF} {f : SF} {ρ : Vr} {lc : LF} {fy : EF} {sy : Bool} {t : Tg} {fi : IF} {m i : Nat} {d : D}
@[simp] theorem run_app : sApp sy lc fy ρ = (match lc ρ with
  | .ok i p ρ1 => if lstAt i p ρ1 = true ∧ (sy = true ∨ p = []) then (fy ρ1).bindS fun y ρ2 => if y.b = true then .stuck else mutS i p ρ2 (appK y) else .stuck
  | .stuck => .stuck) := nr rfl
@[simp] theorem run_ext : sExt sy lc fy ρ = (match lc ρ with
  | .ok i p ρ1 => if lstAt i p ρ1 = true ∧ (sy = true ∨ p = []) then (fy ρ1).bindS fun y ρ2 => if y.b = true then .stuck else mutS i p ρ2 (extK y) else .stuck
  | .stuck => .stuck) := nr rfl
@[simp] theorem run_lvar : lVar i ρ = (match ρ[i]? with
  | some (some _) => .ok i [] ρ
  | _ => .stuck) := nr rfl
@[simp] theorem run_lstAt {p : List Nat} : lstAt i p ρ = (match ρ[i]? with
  | some (some (_, d)) => match getP d p with
    | some c => isLst c
    | none => false
  | _ => false) := nr rfl
@[simp] theorem isLst_l {ds : List D} : isLst (.lst ds) = true := nr rfl
@[simp] theorem getP_nil : getP d [] = some d := nr rfl
@[simp] theorem setP_nil {c : D} : setP d [] c = c := nr rfl
@[simp] theorem run_mutS {p : List Nat} {k : Nat → D → Option D} : mutS i p ρ k = (match mutO i p ρ k with
  | some ρ' => .nx ρ'
  | none => .stuck) := nr rfl
@[simp] theorem run_mutO {p : List Nat} {k : Nat → D → Option D} : mutO i p ρ k = (match ρ[i]? with
  | some (some (m, d)) => match getP d p with
    | some c => if p.length < m then (k (m - p.length - 1) c).map fun c' => ρ.set i (some (m, setP d p c')) else none
    | none => none
  | _ => none) := nr rfl
@[simp] theorem appK_l {y : RV} {j : Nat} {ds : List D} : appK y j (.lst ds) = (if ds.length < BIG ∧ (j ≤ y.q ∨ immut y.d = true) then some (.lst (ds ++ [y.d])) else none) := nr rfl
@[simp] theorem run_for : sFor t fi f ρ = (fi ρ).bindS fun items _ ρ1 => forL t f items ρ1 := nr rfl
@[simp] theorem run_iR1 : iR1 fa ρ = (fa ρ).bindI fun x ρ1 => match x.d with
  | .int j => if RB j then .ok (rng 0 j.toNat) (pureV .non) ρ1 else .stuck
  | _ => .stuck := nr rfl
@[simp] theorem run_iR2 : iR2 fa fb ρ = (fa ρ).bindI fun x ρ1 => (fb ρ1).bindI fun y ρ2 => match x.d, y.d with
  | .int i, .int j => if RB i ∧ RB j then .ok (rng i (j - i).toNat) (pureV .non) ρ2 else .stuck
  | _, _ => .stuck := nr rfl
@[simp] theorem run_iA : iA fa ρ = (fa ρ).bindI fun x ρ1 => if x.b = true then .stuck else match x.d with
  | .lst ds => if x.q ≤ 1 then .ok ds x ρ1 else .stuck
  | .frl ds => .ok ds x ρ1
  | .tup ds => .ok ds (pureV x.d) ρ1
  | _ => .stuck := nr rfl
@[simp] theorem bind_nm : bindT (.nm i) d ρ = if i < ρ.length then some (ρ.set i (some (0, d))) else none := nr rfl
@[simp] theorem bind_tp {is : List Nat} {ds : List D} : bindT (.tp is) (.tup ds) ρ = setAll is ds ρ := nr rfl
@[simp] theorem setAll_nil : setAll [] [] ρ = some ρ := nr rfl
@[simp] theorem setAll_cons {is : List Nat} {ds : List D} : setAll (i :: is) (d :: ds) ρ = if i < ρ.length then setAll is ds (ρ.set i (some (0, d))) else none := nr rfl
@[simp] theorem run_stp {is : List Nat} : sTp is fa ρ = (fa ρ).bindS fun x ρ1 => match x.d with
  | .tup ds => match setAll is ds ρ1 with
    | some ρ2 => .nx ρ2
    | none => .stuck
  | _ => .stuck := nr rfl
@[simp] theorem imm_i {i : Int} : immut (.int i) = true := nr rfl
@[simp] theorem imm_b {b : Bool} : immut (.bl b) = true := nr rfl
@[simp] theorem imm_n : immut .non = true := nr rfl
@[simp] theorem imm_t {ds : List D} : immut (.tup ds) = true := nr rfl
@[simp] theorem imm_f {ds : List D} : immut (.frl ds) = true := nr rfl
@[simp] theorem imm_s {x : Str} : immut (.str x) = true := nr rfl
@[simp] theorem imm_l {ds : List D} : immut (.lst ds) = false := nr rfl
@[simp] theorem imm_ins {C : Nm} {ns : List Nm} {ds : List D} : immut (.ins C ns ds) = false := nr rfl
@[simp] theorem run_slc {lo hi : Option EF} : eSlc fa lo hi ρ = (fa ρ).bind fun x ρ1 => if (x.b && !true) = true then .stuck else (evO lo ρ1).bind fun l ρ2 => match asO lo l with
  | some i => (evO hi ρ2).bind fun h ρ3 => match asO hi h with
    | some j => opE (oSlc x i j) ρ3
    | none => .stuck
  | none => .stuck := nr rfl
@[simp] theorem evO_n : evO none = eC .non := nr rfl
@[simp] theorem evO_s : evO (some fa) = fa := nr rfl
@[simp] theorem asO_n {x : RV} : asO none x = some none := nr rfl
@[simp] theorem asO_i {q : Nat} {b : Bool} {i : Int} : asO (some fa) ⟨q, b, .int i⟩ = some (some i) := nr rfl
@[simp] theorem oSlc_1 {b : Bool} {ds : List D} {lo hi : Option Int} : oSlc ⟨1, b, .lst ds⟩ lo hi = some ⟨1, false, .lst (cutD ds lo hi)⟩ := by simp [oSlc]
@[simp] theorem oSlc_0 {b : Bool} {ds : List D} {lo hi : Option Int} : oSlc ⟨0, b, .lst ds⟩ lo hi = some ⟨1, false, .lst (cutD ds lo hi)⟩ := by simp [oSlc]
@[simp] theorem oSlc_f {q : Nat} {b : Bool} {ds : List D} {lo hi : Option Int} : oSlc ⟨q, b, .frl ds⟩ lo hi = some ⟨1, false, .lst (cutD ds lo hi)⟩ := nr rfl
@[simp] theorem oSlc_t {q : Nat} {b : Bool} {ds : List D} {lo hi : Option Int} : oSlc ⟨q, b, .tup ds⟩ lo hi = some (pureV (.tup (cutD ds lo hi))) := nr rfl
end
theorem rng0 (n : Nat) : rng 0 n = (List.range' 0 n).map fun i : Nat => D.int (i : Int) := by
  unfold rng
  rw [List.range_eq_range']
  apply List.map_congr_left
  intro i _
  simp
theorem rng_nat (a n : Nat) : rng (a : Int) n = (List.range' a n).map fun i : Nat => D.int (i : Int) := by
  unfold rng
  rw [List.range'_eq_map_range, List.map_map]
  apply List.map_congr_left
  intro i _
  simp
@[simp] theorem cutD_from (ds : List D) (k : Nat) : cutD ds (some (k : Int)) none = ds.drop k := by
  unfold cutD HT.sIx
  have h0 : ¬ ((k : Int) < 0) := by omega
  simp only [if_neg h0, Int.toNat_natCast]
  by_cases h : k ≤ ds.length
  · rw [Nat.min_eq_left h]
    exact List.take_of_length_le (by simp)
  · rw [Nat.min_eq_right (by omega), List.drop_eq_nil_of_le (Nat.le_refl _), List.drop_eq_nil_of_le (by omega)]
    simp
@[simp] theorem cutD_to (ds : List D) (k : Nat) : cutD ds none (some (k : Int)) = ds.take k := by
  unfold cutD HT.sIx
  have h0 : ¬ ((k : Int) < 0) := by omega
  simp only [if_neg h0, Int.toNat_natCast, List.drop_zero, Nat.sub_zero]
  by_cases h : k ≤ ds.length
  · rw [Nat.min_eq_left h]
  · rw [Nat.min_eq_right (by omega), List.take_of_length_le (Nat.le_refl _), List.take_of_length_le (by omega)]
theorem cutD_1 (ds : List D) : cutD ds (some 1) none = ds.drop 1 := cutD_from ds 1
theorem run_methI {ms : MTab} {m : Nm} {i : Nat} {as : List Ar} {ρ : Vr} : eMeth ms m (.io i) as ρ = (match ρ[i]? with
    | some (some (m0, d0)) => match recv ms m ⟨m0, false, d0⟩ with
      | some (_, cl, dfl) => (evA as ρ).bind fun xs ρ1 => match ρ1[i]? with
         | some (some (m1, d1)) => callEnd cl dfl (.io i :: as) (⟨m1, false, d1⟩ :: xs) (ρ1.set i none)
         | _ => .stuck
      | none => .stuck
    | _ => .stuck) := nr rfl
@[simp] theorem run_callEnd {cl : List RV → RC} {dfl : List D} {as : List Ar} {xs : List RV} {ρ : Vr} : callEnd cl dfl as xs ρ = (match cl (xs ++ dfl.map pureV) with
  | .ok x os => if x.b = true then .stuck else .ok x (giveBack as os ρ)
  | .exc C ns ys => .exc C ns ys ρ
  | .stuck => .stuck) := nr rfl
def absI (i : Int) : Int := if i < 0 then -i else i
@[simp] theorem oAbs_i {q : Nat} {b : Bool} {i : Int} : oAbs ⟨q, b, .int i⟩ = some (pureV (.int (absI i))) := nr rfl
def maxI (i j : Int) : Int := if j > i then j else i
@[simp] theorem oMax2_i {q q' : Nat} {b b' : Bool} {i j : Int} : oMax2 ⟨q, b, .int i⟩ ⟨q', b', .int j⟩ = some (pureV (.int (maxI i j))) := nr rfl
def getI (xs : List Int) (i : Int) : Int := xs.getD i.toNat 0
theorem atI_int {xs : List Int} {i : Int} (h : 0 ≤ i) (h2 : i < xs.length) : atI (xs.map D.int) i = some (.int (getI xs i)) := by
  rw [atI_map, atI_pos h]
  have : i.toNat < xs.length := by omega
  simp [getI, List.getElem?_eq_getElem this, List.getD_eq_getElem?_getD]
@[simp] theorem zB1 : (1 : Nat) ≤ BIG := by decide
@[simp] theorem zB2 : (2 : Nat) ≤ BIG := by decide
@[simp] theorem zB3 : (3 : Nat) ≤ BIG := by decide
@[simp] theorem zB4 : (4 : Nat) ≤ BIG := by decide
@[simp] theorem zB5 : (5 : Nat) ≤ BIG := by decide
@[simp] theorem zB6 : (6 : Nat) ≤ BIG := by decide
@[simp] theorem zB7 : (7 : Nat) ≤ BIG := by decide
@[simp] theorem zB8 : (8 : Nat) ≤ BIG := by decide
@[simp] theorem zB9 : (9 : Nat) ≤ BIG := by decide
@[simp] theorem zB10 : (10 : Nat) ≤ BIG := by decide
@[simp] theorem zB11 : (11 : Nat) ≤ BIG := by decide
@[simp] theorem zB12 : (12 : Nat) ≤ BIG := by decide
@[simp] theorem run_fl {ft : Nm → List Nm} {i : Nat} {n : Nm} {fa : EF} {ρ : Vr} : sFl ft i n fa ρ = (fa ρ).bindS fun y ρ1 => if y.b = true then .stuck else match ρ1[i]? with
  | some (some (m + 1, .ins C ns ds)) => if n ∈ ft C ∧ ns.length < 100 ∧ (m ≤ y.q ∨ immut y.d = true) then .nx (ρ1.set i (some (m + 1, .ins C (putNs n ns) (putDs n y.d ns ds)))) else .stuck
  | _ => .stuck := nr rfl
@[simp] theorem run_make {C : Nm} {m : Nat} {cl : List RV → RC} {dfl : List D} {as : List Ar} {ρ : Vr} : eMake C m cl dfl as ρ = (evA as ρ).bind fun xs ρ1 => match cl (⟨m + 1, false, .ins C [] []⟩ :: (xs ++ dfl.map pureV)) with
  | .ok y os => made y os fun m' d os' => .ok ⟨m', false, d⟩ (giveBack as os' ρ1)
  | .exc C ns ys => .exc C ns ys ρ1
  | .stuck => .stuck := nr rfl
@[simp] theorem made_k {m : Nat} {d : D} {os : List Slot} {k : Nat → D → List Slot → RE} : made (pureV .non) (some (m, d) :: os) k = k m d os := by simp [made, isNon]
@[simp] theorem oNotN_n {q : Nat} {b : Bool} {q' : Nat} {b' : Bool} : oNotN ⟨q, b, .non⟩ ⟨q', b', .non⟩ = some (pureV (.bl false)) := nr rfl
@[simp] theorem oNotN_i {q : Nat} {b : Bool} {q' : Nat} {b' : Bool} {i : Int} : oNotN ⟨q, b, .int i⟩ ⟨q', b', .non⟩ = some (pureV (.bl true)) := nr rfl
@[simp] theorem oNotN_t {q : Nat} {b : Bool} {q' : Nat} {b' : Bool} {ds : List D} : oNotN ⟨q, b, .tup ds⟩ ⟨q', b', .non⟩ = some (pureV (.bl true)) := nr rfl
@[simp] theorem oIsN_n {q : Nat} {b : Bool} {q' : Nat} {b' : Bool} : oIsN ⟨q, b, .non⟩ ⟨q', b', .non⟩ = some (pureV (.bl true)) := nr rfl
@[simp] theorem oIsN_i {q : Nat} {b : Bool} {q' : Nat} {b' : Bool} {i : Int} : oIsN ⟨q, b, .int i⟩ ⟨q', b', .non⟩ = some (pureV (.bl false)) := nr rfl
@[simp] theorem oIsN_t {q : Nat} {b : Bool} {q' : Nat} {b' : Bool} {ds : List D} : oIsN ⟨q, b, .tup ds⟩ ⟨q', b', .non⟩ = some (pureV (.bl false)) := nr rfl
@[simp] theorem oTuple_t {q : Nat} {b : Bool} {ds : List D} : oTuple ⟨q, b, .tup ds⟩ = some (pureV (.tup ds)) := nr rfl
@[simp] theorem oTuple_0 {b : Bool} {ds : List D} : oTuple ⟨0, b, .lst ds⟩ = some (pureV (.tup ds)) := by simp [oTuple]
@[simp] theorem oTuple_1 {b : Bool} {ds : List D} : oTuple ⟨1, b, .lst ds⟩ = some (pureV (.tup ds)) := by simp [oTuple]
end Pd
end
section
noncomputable section
namespace Pd
open PySem L2
def ftl : List (Nm × List Nm) := [(.n_Ask, [.n_kind, .n_first, .n_many, .n_marks, .n_at, .n_asker, .n_latest, .n_behind, .n_early]), (.n_Due, [.n_number, .n_ask, .n_cells]), (.n_Plate, [.n_counts, .n_lap, .n_skew, .n_swings, .n_spare]), (.n_Mended, [.n_spare, .n_bad, .n_moved, .n_lies, .n_counts, .n_lap, .n_skew, .n_swings])]
abbrev ft : Nm → List Nm := ftOf ftl
def c__law_stream : FnC := ⟨2, 5, [false, false], sSeq (sAs 2 (eLst [])) (sSeq (sAs 3 (e2 true oAdd (e2 true oMod (eVar 0) (eC (.int 2147483647))) (eC (.int 48271)))) (sSeq (sFor (.nm 4) (iR1 (e2 true oAdd (eVar 1) (eC (.int 1)))) (sSeq (sAs 3 (e2 true oMod (e2 true oAdd (e2 true oAdd (e2 true oMul (eVar 3) (eVar 3)) (e2 true oMul (eC (.int 48271)) (eVar 3))) (eVar 4)) (eC (.int 2147483647)))) (sApp true (lVar 2) (eUse 3)))) (sRt (eSlc (eVar 2) (some (eC (.int 1))) none))))⟩
def F__law_stream : List RV → RC := runFn c__law_stream
def c__law_swing : FnC := ⟨2, 6, [false, false], sSeq (sIf (e2 true (oEqD false) (e2 true oMod (e2 true oIdx (eVar 0) (eC (.int 10))) (eC (.int 2))) (eC (.int 0))) (sSeq (sAs 2 (e2 true oAdd (eC (.int 1)) (e2 true oMod (e2 true oIdx (eVar 0) (eC (.int 11))) (eC (.int 1000))))) (sSeq (sIf (e2 true (oEqD false) (e2 true oMod (e2 true oDiv (e2 true oIdx (eVar 0) (eC (.int 11))) (eC (.int 1000))) (eC (.int 9))) (eC (.int 0))) (sAs 2 (e2 true oAdd (eC (.int 1)) (e2 true oMod (e2 true oIdx (eVar 0) (eC (.int 11))) (e2 true oPow (eC (.int 10)) (eC (.int 7)))))) (sNil)) (sSeq (sAs 3 (eLst [.ev (eC (.int 0))])) (sSeq (sFor (.nm 4) (iR2 (eC (.int 1)) (eVar 1)) (sSeq (sApp true (lVar 3) (e2 true oAdd (e2 true oIdx (eVar 3) (e1 oNeg (eC (.int 1)))) (eVar 2))) (sAs 2 (e2 true oSub (eVar 2) (e2 true oMod (e2 true oIdx (eVar 0) (e2 true oAdd (eC (.int 12)) (e2 true oMod (eVar 4) (eC (.int 10))))) (e2 true oAdd (eVar 2) (eC (.int 1)))))))) (sRt (eMv 3)))))) (sNil)) (sSeq (sAs 5 (e2 true oAdd (eC (.int 1)) (e2 true oMod (e2 true oIdx (eVar 0) (eC (.int 11))) (e2 true oPow (eC (.int 10)) (eC (.int 8)))))) (sRt (e2 true oAdd (eLst [.ev (eC (.int 0))]) (e1 oSorted (eLc [4] (.nm 4) (iR2 (eC (.int 1)) (eVar 1)) (eC (.bl true)) (e2 true oAdd (eVar 5) (e2 true oMod (e2 true oIdx (eVar 0) (e2 true oAdd (eC (.int 12)) (e2 true oMod (eVar 4) (eC (.int 10))))) (e2 true oAdd (eVar 5) (eC (.int 1))))))))))⟩
def F__law_swing : List RV → RC := runFn c__law_swing
def c__law_spec : FnC := ⟨2, 10, [false, false], sSeq (sAs 2 (eCall F__law_stream [] [.ev (eUse 0), .ev (eC (.int 24))])) (sSeq (sAs 3 (eLst [.ev (eTup [.ev (e2 true oAdd (eC (.int 2)) (e2 true oMod (e2 true oIdx (eVar 2) (eC (.int 1))) (eC (.int 2)))), .ev (e2 true oAdd (eC (.int 1)) (e2 true oMod (e2 true oIdx (eVar 2) (eC (.int 2))) (eC (.int 8))))])])) (sSeq (sFor (.nm 4) (iR1 (e2 true oMod (e2 true oIdx (eVar 2) (eC (.int 0))) (eC (.int 3)))) (sApp true (lVar 3) (eTup [.ev (e2 true oAdd (eC (.int 1)) (e2 true oMod (e2 true oIdx (eVar 2) (e2 true oAdd (eC (.int 3)) (e2 true oMul (eC (.int 2)) (eVar 4)))) (eC (.int 3)))), .ev (e2 true oAdd (eC (.int 1)) (e2 true oMod (e2 true oIdx (eVar 2) (e2 true oAdd (eC (.int 4)) (e2 true oMul (eC (.int 2)) (eVar 4)))) (eC (.int 8))))]))) (sSeq (sAs 5 (eC (.int 1))) (sSeq (sAs 6 (eLst [])) (sSeq (sFor (.tp [7, 8]) (iA (eUse 3)) (sSeq (sAs 5 (e2 true oMul (eVar 5) (eVar 8))) (sAs 6 (e2 true oAdd (eVar 6) (e2 true oMul (eLst [.ev (eUse 8)]) (eVar 7)))))) (sSeq (sAs 9 (e2 true oMul (eVar 5) (e2 true oAdd (eC (.int 1)) (e2 true oMod (e2 true oIdx (eVar 2) (eC (.int 7))) (eC (.int 900)))))) (sSeq (sIf (e2 true (oEqD false) (e2 true oMod (e2 true oIdx (eVar 2) (eC (.int 8))) (eC (.int 9))) (eC (.int 0))) (sAs 9 (e2 true oMul (eVar 5) (e2 true oAdd (eC (.int 1)) (e2 true oMod (eVar 1) (e2 true oDiv (e2 true oPow (eC (.int 10)) (eC (.int 9))) (eVar 5)))))) (sNil)) (sRt (eTup [.ev (eUse 3), .ev (eUse 6), .ev (eUse 9), .ev (e2 true oMod (e2 true oIdx (eVar 2) (eC (.int 9))) (eVar 9)), .ev (eCall F__law_swing [] [.ev (eUse 2), .ev (e1 oLen (eVar 6))])])))))))))⟩
def F__law_spec : List RV → RC := runFn c__law_spec
def c_ring_counts : FnC := ⟨1, 5, [false], sSeq (sIf (eNot (eChain bLe bLe (eC (.int 1)) (e1 oLen (eVar 0)) (eC (.int 5)))) (sNever) (sNil)) (sSeq (sAs 1 (eLst [])) (sSeq (sFor (.tp [2, 3]) (iA (eUse 0)) (sSeq (sIf (eOr (eNot (eChain bLe bLe (eC (.int 1)) (eVar 2) (eC (.int 40)))) (eNot (eChain bLe bLe (eC (.int 1)) (eVar 3) (eC (.int 60))))) (sNever) (sNil)) (sFor (.nm 4) (iR1 (eVar 2)) (sApp true (lVar 1) (eUse 3))))) (sSeq (sIf (eNot (eChain bLe bLe (eC (.int 2)) (e1 oLen (eVar 1)) (eC (.int 120)))) (sNever) (sNil)) (sRt (eMv 1)))))⟩
def F_ring_counts : List RV → RC := runFn c_ring_counts
def c_check_lap : FnC := ⟨3, 4, [false, false, false], sSeq (sIf (eOr (eNot (eChain bLe bLe (eC (.int 1)) (eVar 1) (eC (.int 1000000000)))) (eNot (eChain bLe bLt (eC (.int 0)) (eVar 2) (eVar 1)))) (sNever) (sNil)) (sFor (.nm 3) (iA (eUse 0)) (sIf (e2 true (oB0 fun i j => decide (j < i)) (e2 true oMod (eVar 1) (eVar 3)) (eC (.int 0))) (sNever) (sNil)))⟩
def F_check_lap : List RV → RC := runFn c_check_lap
def c_check_swing : FnC := ⟨2, 5, [false, false], sSeq (sIf (eOr (e2 true (oEqD true) (e1 oLen (eVar 0)) (eVar 1)) (e2 true (oEqD true) (e2 true oIdx (eVar 0) (eC (.int 0))) (eC (.int 0)))) (sNever) (sNil)) (sSeq (sFor (.nm 2) (iR2 (eC (.int 1)) (eVar 1)) (sIf (eOr (eNot (eChain bLe bLe (eC (.int 1)) (e2 true oIdx (eVar 0) (eVar 2)) (eC (.int 1000000000)))) (e2 true (oB0 fun i j => decide (i < j)) (e2 true oIdx (eVar 0) (eVar 2)) (e2 true oIdx (eVar 0) (e2 true oSub (eVar 2) (eC (.int 1)))))) (sNever) (sNil))) (sFor (.nm 3) (iR2 (eC (.int 1)) (eVar 1)) (sFor (.nm 4) (iR2 (eVar 3) (e2 true oSub (eVar 1) (eVar 3))) (sIf (e2 true (oB0 fun i j => decide (j < i)) (e2 true oIdx (eVar 0) (e2 true oAdd (eVar 3) (eVar 4))) (e2 true oAdd (e2 true oIdx (eVar 0) (eVar 3)) (e2 true oIdx (eVar 0) (eVar 4)))) (sNever) (sNil)))))⟩
def F_check_swing : List RV → RC := runFn c_check_swing
def c_PlateUU_initUU : FnC := ⟨5, 5, [true, false, false, false, false], sSeq (sFl ft 0 .n_counts (eFrl (eCall F_ring_counts [] [.ev (eUse 1)]))) (sSeq (sEx (eCall F_check_lap [] [.ev (eFld ft .n_counts (eVar 0)), .ev (eUse 2), .ev (eUse 3)])) (sSeq (sEx (eCall F_check_swing [] [.ev (eUse 4), .ev (e1 oLen (eFld ft .n_counts (eVar 0)))])) (sSeq (sFl ft 0 .n_lap (eUse 2)) (sSeq (sFl ft 0 .n_skew (eUse 3)) (sSeq (sFl ft 0 .n_swings (eFrl (e1 oList (eVar 4)))) (sFl ft 0 .n_spare (eC (.int 0))))))))⟩
def F_PlateUU_initUU : List RV → RC := runFn c_PlateUU_initUU
def c_Plate_plain_number : FnC := ⟨3, 3, [true, false, false], sSeq (sIf (eOr (eNot (eChain bLe bLt (eC (.int 0)) (eVar 1) (e1 oLen (eFld ft .n_counts (eVar 0))))) (eNot (eChain bLe bLt (eC (.int 0)) (eVar 2) (e2 true oIdx (eFld ft .n_counts (eVar 0)) (eVar 1))))) (sNever) (sNil)) (sSeq (sIf (e2 true (oB0 fun i j => decide (j ≤ i)) (eVar 2) (e2 true oSub (e2 true oIdx (eFld ft .n_counts (eVar 0)) (eVar 1)) (eFld ft .n_spare (eVar 0)))) (sRt (eC (.non))) (sNil)) (sRt (e2 true oAdd (e2 true oSub (e1 oSum (eSlc (eFld ft .n_counts (eVar 0)) none (some (eVar 1)))) (e2 true oMul (eFld ft .n_spare (eVar 0)) (eVar 1))) (eVar 2))))⟩
def F_Plate_plain_number : List RV → RC := runFn c_Plate_plain_number
def mt_plain_number_3 : MTab := mtOf [(.n_Plate, 3, F_Plate_plain_number, []), (.n_Mended, 3, F_Plate_plain_number, [])]
def c_Mended_bad_numbers : FnC := ⟨1, 5, [true], sSeq (sAs 1 (eLcK ft [2, 3] (.tp [2, 3]) 0 .n_bad (eMeth (mt_plain_number_3) .n_plain_number (.io 0) [.ev (eUse 2), .ev (eUse 3)]))) (sRt (e1 oSorted (eLc [4] (.nm 4) (iA (eUse 1)) (e2 true oNotN (eVar 4) (eC (.non))) (eUse 4))))⟩
def F_Mended_bad_numbers : List RV → RC := runFn c_Mended_bad_numbers
def c_Mended_free_cell : FnC := ⟨2, 5, [true, false], sSeq (sFor (.nm 2) (iR1 (e1 oLen (eFld ft .n_counts (eVar 0)))) (sFor (.nm 3) (iT (eTup [.ev (e2 true oSub (eVar 1) (eVar 2)), .ev (e2 true oAdd (eVar 1) (eVar 2))])) (sIf (eChain bLe bLt (eC (.int 0)) (eVar 3) (e1 oLen (eFld ft .n_counts (eVar 0)))) (sFor (.nm 4) (iR2 (e2 true oSub (e2 true oIdx (eFld ft .n_counts (eVar 0)) (eVar 3)) (eFld ft .n_spare (eVar 0))) (e2 true oIdx (eFld ft .n_counts (eVar 0)) (eVar 3))) (sIf (eAnd (e2 true (oDin true) (eTup [.ev (eUse 3), .ev (eUse 4)]) (eFld ft .n_bad (eVar 0))) (e2 true (oDin true) (eTup [.ev (eUse 3), .ev (eUse 4)]) (eFld ft .n_lies (eVar 0)))) (sRt (eTup [.ev (eUse 3), .ev (eUse 4)])) (sNil))) (sNil)))) (sRt (eC (.non)))⟩
def F_Mended_free_cell : List RV → RC := runFn c_Mended_free_cell
def c_Plate_plain_cell : FnC := ⟨2, 5, [true, false], sSeq (sIf (e2 true (oB0 fun i j => decide (i < j)) (eVar 1) (eC (.int 0))) (sNever) (sNil)) (sSeq (sAs 2 (eUse 1)) (sSeq (sFor (.nm 3) (iR1 (e1 oLen (eFld ft .n_counts (eVar 0)))) (sSeq (sAs 4 (e2 true oSub (e2 true oIdx (eFld ft .n_counts (eVar 0)) (eVar 3)) (eFld ft .n_spare (eVar 0)))) (sSeq (sIf (e2 true (oB0 fun i j => decide (i < j)) (eVar 2) (eVar 4)) (sRt (eTup [.ev (eUse 3), .ev (eUse 2)])) (sNil)) (sAs 2 (e2 true oSub (eVar 2) (eVar 4)))))) (sNever)))⟩
def F_Plate_plain_cell : List RV → RC := runFn c_Plate_plain_cell
def mt_bad_numbers_1 : MTab := mtOf [(.n_Mended, 1, F_Mended_bad_numbers, [])]
def mt_free_cell_2 : MTab := mtOf [(.n_Mended, 2, F_Mended_free_cell, [])]
def mt_plain_cell_2 : MTab := mtOf [(.n_Plate, 2, F_Plate_plain_cell, []), (.n_Mended, 2, F_Plate_plain_cell, [])]
def c_MendedUU_initUU : FnC := ⟨7, 11, [true, false, false, false, false, false, false], sSeq (sEx (eCall F_PlateUU_initUU [] [.io 0, .ev (eUse 1), .ev (eUse 2), .ev (eUse 3), .ev (eUse 4)])) (sSeq (sIf (eOr (e2 true (oB0 fun i j => decide (i < j)) (eVar 5) (eC (.int 0))) (e2 true (oB0 fun i j => decide (j ≤ i)) (eVar 5) (e1 oMin (eFld ft .n_counts (eVar 0))))) (sNever) (sNil)) (sSeq (sFl ft 0 .n_spare (eUse 5)) (sSeq (sFl ft 0 .n_bad (eDtN)) (sSeq (sFor (.tp [7, 8]) (iA (eUse 6)) (sSeq (sIf (eOr (eNot (eChain bLe bLt (eC (.int 0)) (eVar 7) (e1 oLen (eFld ft .n_counts (eVar 0))))) (eNot (eChain bLe bLt (eC (.int 0)) (eVar 8) (e2 true oIdx (eFld ft .n_counts (eVar 0)) (eVar 7))))) (sNever) (sNil)) (sSeq (sIf (e2 true (oDin false) (eTup [.ev (eUse 7), .ev (eUse 8)]) (eFld ft .n_bad (eVar 0))) (sNever) (sNil)) (sDpS true (lFld ft .n_bad (lVar 0)) (eTup [.ev (eUse 7), .ev (eUse 8)]) (eC (.bl true)))))) (sSeq (sFl ft 0 .n_moved (eDkN)) (sSeq (sFl ft 0 .n_lies (eDtN)) (sFor (.nm 9) (iA (eMeth (mt_bad_numbers_1) .n_bad_numbers (.io 0) [])) (sSeq (sAs 10 (eMeth (mt_free_cell_2) .n_free_cell (.io 0) [.ev (e2 true oIdx (eMeth (mt_plain_cell_2) .n_plain_cell (.io 0) [.ev (eUse 9)]) (eC (.int 0)))])) (sSeq (sIf (e2 true oIsN (eVar 10) (eC (.non))) (sNever) (sNil)) (sSeq (sDpS true (lFld ft .n_moved (lVar 0)) (eVar 9) (eUse 10)) (sDpS true (lFld ft .n_lies (lVar 0)) (eVar 10) (eUse 9))))))))))))⟩
def F_MendedUU_initUU : List RV → RC := runFn c_MendedUU_initUU
def c__law_plate : FnC := ⟨2, 7, [false, false], sSeq (sAs 2 (eCall F__law_stream [] [.ev (eUse 1), .ev (eC (.int 16))])) (sSeq (sIf (e2 true (oB0 fun i j => decide (j < i)) (e2 true oMod (e2 true oIdx (eVar 2) (eC (.int 0))) (eC (.int 4))) (eC (.int 0))) (sRt (eMake .n_Plate 0 F_PlateUU_initUU [] [.ev (e1 oList (e2 true oIdx (eVar 0) (eC (.int 0)))), .ev (e2 true oIdx (eVar 0) (eC (.int 2))), .ev (e2 true oIdx (eVar 0) (eC (.int 3))), .ev (e1 oList (e2 true oIdx (eVar 0) (eC (.int 4))))])) (sNil)) (sSeq (sAs 3 (e2 true oMod (e2 true oIdx (eVar 2) (eC (.int 1))) (e1 oMin (e2 true oIdx (eVar 0) (eC (.int 1)))))) (sSeq (sAs 4 (eDtN)) (sSeq (sFor (.nm 5) (iR1 (e2 true oMin2 (e2 true oMod (e2 true oIdx (eVar 2) (eC (.int 2))) (eC (.int 7))) (e2 true oMul (eVar 3) (e1 oLen (e2 true oIdx (eVar 0) (eC (.int 1))))))) (sSeq (sAs 6 (e2 true oMod (e2 true oIdx (eVar 2) (e2 true oAdd (eC (.int 3)) (eVar 5))) (e1 oLen (e2 true oIdx (eVar 0) (eC (.int 1)))))) (sDpS true (lVar 4) (eTup [.ev (eUse 6), .ev (e2 true oMod (e2 true oIdx (eVar 2) (e2 true oAdd (eC (.int 9)) (eVar 5))) (e2 true oIdx (e2 true oIdx (eVar 0) (eC (.int 1))) (eVar 6)))]) (eC (.bl true))))) (sRt (eMake .n_Mended 1 F_MendedUU_initUU [] [.ev (e1 oList (e2 true oIdx (eVar 0) (eC (.int 0)))), .ev (e2 true oIdx (eVar 0) (eC (.int 2))), .ev (e2 true oIdx (eVar 0) (eC (.int 3))), .ev (e1 oList (e2 true oIdx (eVar 0) (eC (.int 4)))), .ev (eUse 3), .ev (e1 oListT (eVar 4))]))))))⟩
def F__law_plate : List RV → RC := runFn c__law_plate
def c__law_cell_at : FnC := ⟨2, 2, [false, false], sSeq (sIf (e2 true (oB0 fun i j => decide (i < j)) (eVar 1) (e1 oLen (eVar 0))) (sRt (e2 true oIdx (eVar 0) (eVar 1))) (sNil)) (sRt (eC (.int 0)))⟩
def F__law_cell_at : List RV → RC := runFn c__law_cell_at
def c__law_walk : FnC := ⟨4, 10, [false, false, false, false], sSeq (sAs 4 (eLst [])) (sSeq (sFor (.tp [5, 6]) (iA (eUse 3)) (sSeq (sAs 7 (e2 true oDiv (e2 true oIdx (eVar 0) (eC (.int 2))) (e2 true oIdx (e2 true oIdx (eVar 0) (eC (.int 1))) (eVar 5)))) (sSeq (sAs 8 (e2 true oAdd (eVar 2) (e2 true oIdx (e2 true oIdx (eVar 0) (eC (.int 4))) (e1 oAbs (e2 true oSub (eVar 1) (eVar 5)))))) (sSeq (sAs 9 (e2 true oAdd (eVar 8) (e2 true oMod (e2 true oSub (e2 true oAdd (e2 true oMul (eVar 6) (eVar 7)) (e2 true oMul (eVar 5) (e2 true oIdx (eVar 0) (eC (.int 3))))) (eVar 8)) (e2 true oIdx (eVar 0) (eC (.int 2)))))) (sSeq (sAs 1 (eUse 5)) (sSeq (sAs 2 (e2 true oAdd (eVar 9) (eVar 7))) (sApp true (lVar 4) (eTup [.ev (eUse 5), .ev (eUse 6), .ev (eUse 9), .ev (eUse 2)])))))))) (sRt (eMv 4)))⟩
def F__law_walk : List RV → RC := runFn c__law_walk
def c__law_behind_way : FnC := ⟨4, 5, [false, false, false, false], sSeq (sFor (.nm 4) (iA (eCall F__law_walk [] [.ev (eUse 0), .ev (eUse 1), .ev (eUse 2), .ev (eUse 3)])) (sSeq (sAs 1 (e2 true oIdx (eVar 4) (eC (.int 0)))) (sAs 2 (e2 true oIdx (eVar 4) (eC (.int 3)))))) (sRt (eTup [.ev (eUse 1), .ev (eUse 2)]))⟩
def F__law_behind_way : List RV → RC := runFn c__law_behind_way
def c_Plate_number_of : FnC := ⟨3, 3, [true, false, false], sRt (eMeth (mt_plain_number_3) .n_plain_number (.io 0) [.ev (eUse 1), .ev (eUse 2)])⟩
def F_Plate_number_of : List RV → RC := runFn c_Plate_number_of
def c_Mended_number_of : FnC := ⟨3, 4, [true, false, false], sSeq (sAs 3 (eMeth (mt_plain_number_3) .n_plain_number (.io 0) [.ev (eUse 1), .ev (eUse 2)])) (sSeq (sIf (e2 true (oDin false) (eTup [.ev (eUse 1), .ev (eUse 2)]) (eFld ft .n_bad (eVar 0))) (sRt (eC (.non))) (sNil)) (sSeq (sIf (e2 true oIsN (eVar 3) (eC (.non))) (sRt (eGet1 (eFld ft .n_lies (eVar 0)) (eTup [.ev (eUse 1), .ev (eUse 2)]))) (sNil)) (sRt (eMv 3))))⟩
def F_Mended_number_of : List RV → RC := runFn c_Mended_number_of
def mt_number_of_3 : MTab := mtOf [(.n_Plate, 3, F_Plate_number_of, []), (.n_Mended, 3, F_Mended_number_of, [])]
def c__law_beside : FnC := ⟨4, 9, [false, false, false, false], sSeq (sAs 4 (eSlc (eLc [7] (.nm 7) (iR1 (e2 true oIdx (e2 true oIdx (eVar 1) (eC (.int 1))) (e2 true oIdx (eVar 2) (eC (.int 0))))) (e2 true oNotN (eMeth (mt_number_of_3) .n_number_of (.io 0) [.ev (e2 true oIdx (eVar 2) (eC (.int 0))), .ev (eUse 7)]) (eC (.non))) (eUse 7)) none (some (eC (.int 7))))) (sSeq (sAs 5 (e2 true oMod (eVar 3) (e2 true oAdd (e1 oLen (eVar 4)) (eC (.int 1))))) (sSeq (sAs 4 (e2 true oAdd (eSlc (eVar 4) (some (eVar 5)) none) (eSlc (eVar 4) none (some (eVar 5))))) (sSeq (sIf (e2 true (oEqD false) (e2 true oMod (e2 true oDiv (eVar 3) (eC (.int 8))) (eC (.int 2))) (eC (.int 1))) (sAs 4 (e1 oRev (eVar 4))) (sNil)) (sSeq (sAs 6 (eLst [])) (sSeq (sFor (.nm 7) (iR1 (e1 oLen (eVar 4))) (sSeq (sAs 8 (eMeth (mt_number_of_3) .n_number_of (.io 0) [.ev (e2 true oIdx (eVar 2) (eC (.int 0))), .ev (e2 true oIdx (eVar 4) (eVar 7))])) (sApp true (lVar 6) (eTup [.ev (e2 true oAdd (e2 true oMul (eC (.int 2)) (eVar 7)) (e2 true oMod (e2 true oDiv (eVar 3) (eC (.int 16))) (eC (.int 2)))), .ev (eUse 8), .ev (eC (.int 1)), .ev (eC (.bl false)), .ev (eTup []), .ev (eC (.non)), .ev (eLst [.ev (eTup [.ev (e2 true oIdx (eVar 2) (eC (.int 0))), .ev (e2 true oIdx (eVar 4) (eVar 7))])])])))) (sRt (eMv 6)))))))⟩
def F__law_beside : List RV → RC := runFn c__law_beside
def c__law_tight : FnC := ⟨3, 6, [false, false, true], sSeq (sFor (.nm 3) (iA (eUse 2)) (sAs 1 (eCall F__law_behind_way [] [.ev (eUse 0), .ev (e2 true oIdx (eVar 1) (eC (.int 0))), .ev (e2 true oIdx (eVar 1) (eC (.int 1))), .ev (e2 true oIdx (eVar 3) (eC (.int 6)))]))) (sSeq (sAs 4 (eLst [])) (sSeq (sFor (.nm 5) (iR1 (e1 oLen (eVar 2))) (sApp true (lVar 4) (e2 true oAdd (e2 true oAdd (eSlc (e2 true oIdx (eVar 2) (eVar 5)) none (some (eC (.int 5)))) (eTup [.ev (e2 true oSub (e2 true oSub (e2 true oAdd (e2 true oIdx (eVar 1) (eC (.int 1))) (e1 oLen (eVar 2))) (eC (.int 1))) (eVar 5))])) (eSlc (e2 true oIdx (eVar 2) (eVar 5)) (some (eC (.int 6))) none)))) (sRt (eMv 4))))⟩
def F__law_tight : List RV → RC := runFn c__law_tight
def c_Plate_cell_at : FnC := ⟨2, 2, [true, false], sRt (eMeth (mt_plain_cell_2) .n_plain_cell (.io 0) [.ev (eUse 1)])⟩
def F_Plate_cell_at : List RV → RC := runFn c_Plate_cell_at
def c_Mended_cell_at : FnC := ⟨2, 2, [true, false], sSeq (sIf (e2 true (oDin false) (eVar 1) (eFld ft .n_moved (eVar 0))) (sRt (e2 true oDget (eFld ft .n_moved (eVar 0)) (eVar 1))) (sNil)) (sRt (eMeth (mt_plain_cell_2) .n_plain_cell (.io 0) [.ev (eUse 1)]))⟩
def F_Mended_cell_at : List RV → RC := runFn c_Mended_cell_at
def c_Plate_total : FnC := ⟨1, 1, [true], sRt (e2 true oSub (e1 oSum (eFld ft .n_counts (eVar 0))) (e2 true oMul (eFld ft .n_spare (eVar 0)) (e1 oLen (eFld ft .n_counts (eVar 0)))))⟩
def F_Plate_total : List RV → RC := runFn c_Plate_total
def mt_total_1 : MTab := mtOf [(.n_Plate, 1, F_Plate_total, []), (.n_Mended, 1, F_Plate_total, [])]
def mt_cell_at_2 : MTab := mtOf [(.n_Plate, 2, F_Plate_cell_at, []), (.n_Mended, 2, F_Mended_cell_at, [])]
def c__law_known : FnC := ⟨5, 20, [false, false, false, false, false], sSeq (sAs 5 (eCall F__law_cell_at [] [.ev (eUse 0), .ev (eC (.int 5))])) (sSeq (sAs 6 (e2 true (oEqD false) (e2 true oMod (e2 true oDiv (eVar 5) (eC (.int 50))) (eC (.int 8))) (eC (.int 1)))) (sSeq (sAs 7 (e2 true oIdx (eLst [.ev (e2 true oMod (eVar 5) (eVar 4)), .ev (eUse 4)]) (e1 oInt (e2 true (oEqD false) (e2 true oMod (e2 true oDiv (eVar 5) (eVar 4)) (eC (.int 5))) (eC (.int 1)))))) (sSeq (sIf (eVar 6) (sAs 7 (e2 true oAdd (eC (.int 6)) (e2 true oMod (e2 true oDiv (eVar 5) (eC (.int 400))) (eC (.int 2))))) (sNil)) (sSeq (sAs 8 (e2 true oAdd (e2 true oIdx (eVar 2) (eC (.int 2))) (e2 true oIdx (e2 true oIdx (eVar 2) (eC (.int 4))) (e1 oNeg (eC (.int 1)))))) (sSeq (sAs 9 (eLst [])) (sSeq (sAs 10 (e1 oNeg (eC (.int 1)))) (sSeq (sAs 11 (eUse 3)) (sSeq (sFor (.nm 12) (iR1 (eVar 7)) (sSeq (sAs 13 (eCall F__law_stream [] [.ev (e2 true oAdd (eCall F__law_cell_at [] [.ev (eUse 0), .ev (e2 true oAdd (eC (.int 6)) (eVar 12))]) (eVar 12)), .ev (eC (.int 9))])) (sSeq (sAs 14 (e2 false oMod (e2 true oIdx (eVar 13) (eC (.int 0))) (e2 true oIdx (eLst [.ev (eMeth (mt_total_1) .n_total (.io 1) []), .ev (e2 true oMin2 (eMeth (mt_total_1) .n_total (.io 1) []) (eC (.int 5)))]) (e2 true oMod (e2 true oDiv (eVar 5) (eC (.int 25))) (eC (.int 2)))))) (sSeq (sIf (eVar 6) (sAs 14 (e2 false oMul (e2 true oMod (e2 true oIdx (eVar 13) (eC (.int 0))) (eC (.int 2))) (e2 true oSub (eMeth (mt_total_1) .n_total (.io 1) []) (eC (.int 1))))) (sNil)) (sSeq (sAs 15 (e2 false oAdd (eC (.int 1)) (e2 false oMod (e2 true oIdx (eVar 13) (eC (.int 1))) (e2 false oMin2 (e2 true oSub (eC (.int 2)) (e1 oInt (eVar 6))) (e2 true oSub (eMeth (mt_total_1) .n_total (.io 1) []) (eVar 14)))))) (sSeq (sAs 10 (e2 true oAdd (e2 true oAdd (eVar 10) (eC (.int 1))) (e2 true oMod (e2 true oIdx (eVar 13) (eC (.int 3))) (eC (.int 3))))) (sSeq (sAs 16 (eLc [19] (.nm 19) (iR1 (eVar 15)) (eC (.bl true)) (eMeth (mt_cell_at_2) .n_cell_at (.io 1) [.ev (e2 true oAdd (eVar 14) (eVar 19))]))) (sSeq (sAs 11 (eCall F__law_behind_way [] [.ev (eUse 2), .ev (e2 true oIdx (eVar 11) (eC (.int 0))), .ev (e2 true oIdx (eVar 11) (eC (.int 1))), .ev (eUse 16)])) (sSeq (sAs 17 (e2 true oIdx (eLst [.ev (eC (.non)), .ev (e2 true oSub (e2 true oIdx (eVar 11) (eC (.int 1))) (e2 true oMod (e2 true oIdx (eVar 13) (eC (.int 6))) (eC (.int 2))))]) (e2 true oMod (e2 true oIdx (eVar 13) (eC (.int 4))) (eC (.int 2))))) (sSeq (sIf (e2 true (oB0 fun i j => decide (j < i)) (e2 true oMod (e2 true oIdx (eVar 13) (eC (.int 4))) (eC (.int 4))) (eC (.int 1))) (sAs 17 (e2 true oAdd (e2 true oIdx (eVar 3) (eC (.int 1))) (e2 true oMod (e2 true oIdx (eVar 13) (eC (.int 5))) (e2 true oAdd (eC (.int 1)) (e2 true oMul (eVar 8) (e2 true oAdd (eC (.int 1)) (e2 true oMod (e2 true oIdx (eVar 13) (eC (.int 6))) (e2 true oIdx (eLst [.ev (eC (.int 4)), .ev (eC (.int 9))]) (e1 oInt (eVar 6)))))))))) (sNil)) (sSeq (sAs 18 (e1 oTuple (eLc [19] (.nm 19) (iR1 (eVar 10)) (eAnd (e2 true (oEqD false) (e2 true oMod (e2 true oDiv (e2 true oIdx (eVar 13) (eC (.int 7))) (e2 true oAdd (eC (.int 1)) (eVar 19))) (eC (.int 4))) (eC (.int 0))) (e2 true (oEqD false) (e2 true oMod (e2 true oIdx (eVar 13) (eC (.int 8))) (eC (.int 3))) (eC (.int 0)))) (eUse 19)))) (sApp true (lVar 9) (eTup [.ev (eUse 10), .ev (eUse 14), .ev (eUse 15), .ev (eOr (eVar 6) (e2 true (oEqD false) (e2 true oMod (e2 true oIdx (eVar 13) (eC (.int 2))) (eC (.int 3))) (eC (.int 0)))), .ev (eUse 18), .ev (eUse 17), .ev (eUse 16)]))))))))))))) (sSeq (sIf (e2 true (oEqD false) (e2 true oMod (e2 true oDiv (eVar 5) (eC (.int 3200))) (eC (.int 8))) (eC (.int 1))) (sAs 9 (eCall F__law_beside [] [.ev (eUse 1), .ev (eUse 2), .ev (eUse 3), .ev (e2 true oDiv (eVar 5) (eC (.int 25600)))])) (sNil)) (sSeq (sIf (e2 true (oEqD false) (e2 true oMod (e2 true oDiv (eVar 5) (eC (.int 800))) (eC (.int 4))) (eC (.int 1))) (sAs 9 (eCall F__law_tight [] [.ev (eUse 2), .ev (eUse 3), .io 9])) (sNil)) (sRt (eMv 9))))))))))))⟩
def F__law_known : List RV → RC := runFn c__law_known
def c_stretch : FnC := ⟨2, 3, [false, false], sRt (eLc [2] (.nm 2) (iR2 (eFld ft .n_first (eVar 1)) (e2 true oAdd (eFld ft .n_first (eVar 1)) (eFld ft .n_many (eVar 1)))) (eC (.bl true)) (eMeth (mt_cell_at_2) .n_cell_at (.io 0) [.ev (eUse 2)]))⟩
def F_stretch : List RV → RC := runFn c_stretch
def c_numbered_stretch : FnC := ⟨3, 5, [false, false, false], sSeq (sTry (sAs 3 (eCall F_stretch [] [.ev (eUse 0), .ev (eUse 1)]))) (sRt (eMv 3))⟩
def F_numbered_stretch : List RV → RC := runFn c_numbered_stretch
def c_DueUU_initUU : FnC := ⟨4, 4, [true, false, false, false], sSeq (sFl ft 0 .n_number (eUse 2)) (sSeq (sFl ft 0 .n_ask (eUse 3)) (sFl ft 0 .n_cells (eCall F_numbered_stretch [] [.ev (eUse 1), .ev (eUse 3), .ev (eUse 2)])))⟩
def F_DueUU_initUU : List RV → RC := runFn c_DueUU_initUU
def c_check : FnC := ⟨2, 2, [false, false], sIf (eNot (eChain bLe bLe (eC (.int 0)) (eVar 0) (eVar 1))) (sNever) (sNil)⟩
def F_check : List RV → RC := runFn c_check
def c_with_rest : FnC := ⟨4, 6, [false, false, false, false], sSeq (sEx (eCall F_check [] [.ev (eFld ft .n_first (eVar 0)), .ev (e2 true oPow (eC (.int 10)) (eC (.int 6)))])) (sSeq (sEx (eCall F_check [] [.ev (e2 true oSub (eFld ft .n_many (eVar 0)) (eC (.int 1))), .ev (eC (.int 15))])) (sSeq (sEx (eCall F_check [] [.ev (eFld ft .n_at (eVar 0)), .ev (e2 true oPow (eC (.int 10)) (eC (.int 12)))])) (sSeq (sEx (eCall F_check [] [.ev (eUse 1), .ev (eC (.int 20))])) (sSeq (sIf (e2 true oNotN (eVar 2) (eC (.non))) (sEx (eCall F_check [] [.ev (eUse 2), .ev (e2 true oPow (eC (.int 10)) (eC (.int 13)))])) (sNil)) (sSeq (sIf (e2 true oIsN (eVar 3) (eC (.non))) (sAs 3 (eTup [])) (sNil)) (sSeq (sAs 4 (e1 oNeg (eC (.int 1)))) (sSeq (sFor (.nm 5) (iA (eUse 3)) (sSeq (sEx (eCall F_check [] [.ev (eUse 5), .ev (eC (.int 99))])) (sSeq (sIf (e2 true (oB0 fun i j => decide (i ≤ j)) (eVar 5) (eVar 4)) (sNever) (sNil)) (sAs 4 (eUse 5))))) (sSeq (sFl ft 0 .n_asker (eUse 1)) (sSeq (sFl ft 0 .n_latest (eUse 2)) (sSeq (sFl ft 0 .n_behind (e1 oTuple (eVar 3))) (sRt (eMv 0))))))))))))⟩
def F_with_rest : List RV → RC := runFn c_with_rest
def c_AskUU_initUU : FnC := ⟨6, 6, [true, false, false, false, false, false], sSeq (sFl ft 0 .n_kind (eUse 1)) (sSeq (sFl ft 0 .n_first (eUse 2)) (sSeq (sFl ft 0 .n_many (eUse 3)) (sSeq (sFl ft 0 .n_marks (eUse 4)) (sSeq (sFl ft 0 .n_at (eUse 5)) (sSeq (sFl ft 0 .n_asker (eC (.int 0))) (sSeq (sFl ft 0 .n_latest (eC (.non))) (sSeq (sFl ft 0 .n_behind (eTup [])) (sFl ft 0 .n_early (eC (.bl false))))))))))⟩
def F_AskUU_initUU : List RV → RC := runFn c_AskUU_initUU
def c_reading : FnC := ⟨6, 6, [false, false, false, false, false, false], sRt (eCall F_with_rest [] [.ev (eMake .n_Ask 0 F_AskUU_initUU [] [.ev (eC (.str "read")), .ev (eUse 0), .ev (eUse 1), .ev (eTup []), .ev (eUse 2)]), .ev (eUse 3), .ev (eUse 4), .ev (eUse 5)])⟩
def F_reading : List RV → RC := runFn c_reading
def c_writing : FnC := ⟨7, 9, [false, false, false, false, false, false, false], sSeq (sFor (.nm 7) (iA (eUse 1)) (sEx (eCall F_check [] [.ev (eUse 7), .ev (e2 true oPow (eC (.int 10)) (eC (.int 9)))]))) (sSeq (sAs 8 (eCall F_with_rest [] [.ev (eMake .n_Ask 0 F_AskUU_initUU [] [.ev (eC (.str "write")), .ev (eUse 0), .ev (e1 oLen (eVar 1)), .ev (e1 oTuple (eVar 1)), .ev (eUse 2)]), .ev (eUse 3), .ev (eUse 4), .ev (eUse 5)])) (sSeq (sFl ft 8 .n_early (eUse 6)) (sRt (eMv 8))))⟩
def F_writing : List RV → RC := runFn c_writing
def c__law_ask : FnC := ⟨2, 4, [false, false], sSeq (sIf (e2 true oIdx (eVar 0) (eC (.int 3))) (sSeq (sAs 2 (eLc [3] (.nm 3) (iR1 (e2 true oIdx (eVar 0) (eC (.int 2)))) (eC (.bl true)) (e2 true oMod (e2 true oAdd (eVar 1) (e2 true oMul (eC (.int 7)) (eVar 3))) (e2 true oAdd (e2 true oPow (eC (.int 10)) (eC (.int 9))) (eC (.int 1)))))) (sRt (eCall F_writing [] [.ev (e2 true oIdx (eVar 0) (eC (.int 1))), .ev (eUse 2), .ev (e2 true oMod (eVar 1) (e2 true oPow (eC (.int 10)) (eC (.int 12)))), .ev (e2 true oMod (eVar 1) (eC (.int 21))), .ev (e2 true oIdx (eVar 0) (eC (.int 5))), .ev (e2 true oIdx (eVar 0) (eC (.int 4))), .ev (e2 true (oEqD false) (e2 true oMod (eVar 1) (eC (.int 2))) (eC (.int 0)))]))) (sNil)) (sRt (eCall F_reading [] [.ev (e2 true oIdx (eVar 0) (eC (.int 1))), .ev (e2 true oIdx (eVar 0) (eC (.int 2))), .ev (e2 true oMod (eVar 1) (e2 true oPow (eC (.int 10)) (eC (.int 12)))), .ev (e2 true oMod (eVar 1) (eC (.int 21))), .ev (e2 true oIdx (eVar 0) (eC (.int 5))), .ev (e2 true oIdx (eVar 0) (eC (.int 4)))]))⟩
def F__law_ask : List RV → RC := runFn c__law_ask
def c__law_start : FnC := ⟨2, 9, [false, false], sSeq (sAs 2 (eCall F__law_spec [] [.ev (eCall F__law_cell_at [] [.ev (eUse 0), .ev (eC (.int 0))]), .ev (eCall F__law_cell_at [] [.ev (eUse 0), .ev (eC (.int 1))])])) (sSeq (sAs 3 (eCall F__law_plate [] [.ev (eUse 2), .ev (eCall F__law_cell_at [] [.ev (eUse 0), .ev (eC (.int 2))])])) (sSeq (sAs 4 (e2 true oMod (eCall F__law_cell_at [] [.ev (eUse 0), .ev (eC (.int 3))]) (e1 oLen (e2 true oIdx (eVar 2) (eC (.int 1)))))) (sSeq (sAs 5 (e2 false oMod (eCall F__law_cell_at [] [.ev (eUse 0), .ev (eC (.int 4))]) (e2 false oIdx (eLst [.ev (e2 true oPow (eC (.int 10)) (eC (.int 4))), .ev (e2 true oPow (eC (.int 10)) (eC (.int 12)))]) (e2 true oMod (e2 true oDiv (eCall F__law_cell_at [] [.ev (eUse 0), .ev (eC (.int 3))]) (eC (.int 16))) (eC (.int 2)))))) (sSeq (sAs 6 (eCall F__law_known [] [.ev (eUse 0), .ev (eUse 3), .ev (eUse 2), .ev (eTup [.ev (eUse 4), .ev (eUse 5)]), .ev (eUse 1)])) (sSeq (sAs 7 (eLc [8] (.nm 8) (iA (eUse 6)) (eC (.bl true)) (eMake .n_Due 0 F_DueUU_initUU [] [.ev (eUse 3), .ev (e2 true oIdx (eVar 8) (eC (.int 0))), .ev (eCall F__law_ask [] [.ev (eUse 8), .ev (e2 true oAdd (eCall F__law_cell_at [] [.ev (eUse 0), .ev (eC (.int 12))]) (e2 true oIdx (eVar 8) (eC (.int 0))))])]))) (sRt (eTup [.ev (eUse 2), .ev (eUse 3), .ev (eUse 4), .ev (eUse 5), .ev (eUse 6), .ev (eUse 7)])))))))⟩
def F__law_start : List RV → RC := runFn c__law_start
def c_clash : FnC := ⟨2, 2, [false, false], sSeq (sIf (eAnd (e2 true (oEqD true) (eFld ft .n_kind (eVar 0)) (eC (.str "write"))) (e2 true (oEqD true) (eFld ft .n_kind (eVar 1)) (eC (.str "write")))) (sRt (eC (.bl false))) (sNil)) (sRt (eAnd (e2 true (oB0 fun i j => decide (i < j)) (eFld ft .n_first (eVar 0)) (e2 true oAdd (eFld ft .n_first (eVar 1)) (eFld ft .n_many (eVar 1)))) (e2 true (oB0 fun i j => decide (i < j)) (eFld ft .n_first (eVar 1)) (e2 true oAdd (eFld ft .n_first (eVar 0)) (eFld ft .n_many (eVar 0))))))⟩
def F_clash : List RV → RC := runFn c_clash
def c_keeps_behind : FnC := ⟨2, 2, [false, false], sSeq (sIf (e2 true (oB0 fun i j => decide (j ≤ i)) (eFld ft .n_number (eVar 1)) (eFld ft .n_number (eVar 0))) (sRt (eC (.bl false))) (sNil)) (sRt (eOr (e2 true (oInS false) (eFld ft .n_number (eVar 1)) (eFld ft .n_behind (eFld ft .n_ask (eVar 0)))) (eCall F_clash [] [.ev (eFld ft .n_ask (eVar 0)), .ev (eFld ft .n_ask (eVar 1))])))⟩
def F_keeps_behind : List RV → RC := runFn c_keeps_behind
def c_may_be_next : FnC := ⟨1, 4, [false], sSeq (sAs 1 (eLst [])) (sSeq (sFor (.nm 2) (iA (eUse 0)) (sIf (e2 true (oEqN false) (eLc [3] (.nm 3) (iA (eUse 0)) (eCall F_keeps_behind [] [.ev (eUse 2), .ev (eUse 3)]) (eUse 3)) (eLst [])) (sApp true (lVar 1) (eFld ft .n_number (eVar 2))) (sNil))) (sRt (eMv 1)))⟩
def F_may_be_next : List RV → RC := runFn c_may_be_next
def c__law_keeps : FnC := ⟨2, 2, [false, false], sSeq (sIf (e2 true (oB0 fun i j => decide (j ≤ i)) (e2 true oIdx (eVar 1) (eC (.int 0))) (e2 true oIdx (eVar 0) (eC (.int 0)))) (sRt (eC (.bl false))) (sNil)) (sSeq (sIf (e2 true (oInS false) (e2 true oIdx (eVar 1) (eC (.int 0))) (e2 true oIdx (eVar 0) (eC (.int 4)))) (sRt (eC (.bl true))) (sNil)) (sRt (eAnd (eOr (e2 true oIdx (eVar 0) (eC (.int 3))) (e2 true oIdx (eVar 1) (eC (.int 3)))) (eAnd (e2 true (oB0 fun i j => decide (i < j)) (e2 true oIdx (eVar 0) (eC (.int 1))) (e2 true oAdd (e2 true oIdx (eVar 1) (eC (.int 1))) (e2 true oIdx (eVar 1) (eC (.int 2))))) (e2 true (oB0 fun i j => decide (i < j)) (e2 true oIdx (eVar 1) (eC (.int 1))) (e2 true oAdd (e2 true oIdx (eVar 0) (eC (.int 1))) (e2 true oIdx (eVar 0) (eC (.int 2)))))))))⟩
def F__law_keeps : List RV → RC := runFn c__law_keeps
def c__law_free_ones : FnC := ⟨1, 3, [false], sRt (eLc [1] (.nm 1) (iA (eUse 0)) (e2 true (oEqN false) (eLc [2] (.nm 2) (iA (eUse 0)) (eCall F__law_keeps [] [.ev (eUse 1), .ev (eUse 2)]) (eUse 2)) (eLst [])) (e2 true oIdx (eVar 1) (eC (.int 0))))⟩
def F__law_free_ones : List RV → RC := runFn c__law_free_ones
def c__law_whole : FnC := ⟨1, 1, [false], sRt (eAnd (e1 (oIsi "int") (eVar 0)) (eNot (e1 (oIsi "bool") (eVar 0))))⟩
def F__law_whole : List RV → RC := runFn c__law_whole
def c_law : FnC := ⟨1, 13, [false], sSeq (sTp [1, 2, 3, 4, 5, 6] (eCall F__law_start [] [.ev (eUse 0), .ev (eC (.int 6))])) (sSeq (sFor (.nm 7) (iR1 (e2 true oAdd (e1 oLen (eVar 5)) (eC (.int 1)))) (sSeq (sAs 8 (e2 true oAdd (eSlc (eVar 6) none (some (eVar 7))) (eSlc (eVar 6) (some (e2 true oAdd (eVar 7) (eC (.int 1)))) none))) (sSeq (sAs 9 (eLc [12] (.nm 12) (iA (e2 true oAdd (eSlc (eVar 5) none (some (eVar 7))) (eSlc (eVar 5) (some (e2 true oAdd (eVar 7) (eC (.int 1)))) none))) (eC (.bl true)) (e2 true oIdx (eVar 12) (eC (.int 0))))) (sSeq (sAs 10 (eCall F_may_be_next [] [.ev (eUse 8)])) (sSeq (sAs 11 (eCall F__law_free_ones [] [.ev (e2 true oAdd (eSlc (eVar 5) none (some (eVar 7))) (eSlc (eVar 5) (some (e2 true oAdd (eVar 7) (eC (.int 1)))) none))])) (sSeq (sIf (eOr (eNot (e1 (oIsi "list") (eVar 10))) (e2 true (oEqD true) (eVar 10) (eVar 11))) (sRt (eC (.bl false))) (sNil)) (sSeq (sIf (eOr (e2 true (oEqN true) (eLcB [12] (.nm 12) 10 (eNot (eCall F__law_whole [] [.ev (eUse 12)])) (eUse 12)) (eLst [])) (e2 true (oEqD true) (eLc [12] (.nm 12) (iA (eUse 8)) (eC (.bl true)) (eFld ft .n_number (eVar 12))) (eVar 9))) (sRt (eC (.bl false))) (sNil)) (sApp true (lVar 10) (eC (.int 0)))))))))) (sSeq (sAs 10 (eCall F_may_be_next [] [.ev (e1 oList (eVar 6))])) (sRt (eAnd (e1 (oIsi "list") (eVar 10)) (e2 false (oEqD false) (eUse 10) (eCall F__law_free_ones [] [.ev (eUse 5)]))))))⟩
def F_law : List RV → RC := runFn c_law
end Pd

end
end
section
namespace Pd
open PySem L2
def cellAt (ns : List Int) (k : Nat) : Int := ns.getD k 0
theorem F_cell_at (ns : List Int) (k : Nat) : F__law_cell_at [pureV (.frl (ns.map .int)), pureV (.int k)] = .ok (pureV (.int (cellAt ns k))) [none, none] := by
  unfold F__law_cell_at runFn c__law_cell_at
  simp [enter, atI_nat]
  by_cases h : k < ns.length
  · simp [h, cellAt]
  · simp [h, cellAt]
/-! the stream -/
def nextN (n : Int) (k : Int) : Int := (n * n + 48271 * n + k) % 2147483647
def strG : Nat → Nat → Int → List Int
  | 0, _, _ => []
  | c + 1, k, n => nextN n k :: strG c (k + 1) (nextN n k)
def stream (cell : Int) (many : Nat) : List Int := (strG (many + 1) 0 (cell % 2147483647 + 48271)).drop 1
theorem strG_len : ∀ c k n, (strG c k n).length = c
  | 0, _, _ => rfl
  | c + 1, k, n => by simp [strG, strG_len]
theorem stream_len (cell : Int) (many : Nat) : (stream cell many).length = many := by simp [stream, strG_len]
theorem nextN_ok (n k : Int) : 0 ≤ nextN n k ∧ nextN n k < 2147483647 := ⟨Int.emod_nonneg _ (by decide), Int.emod_lt_of_pos _ (by decide)⟩
theorem strG_ok : ∀ c k n, ∀ x ∈ strG c k n, 0 ≤ x ∧ x < 2147483647
  | 0, _, _, x, h => by simp [strG] at h
  | c + 1, k, n, x, h => by
    simp [strG] at h
    rcases h with h | h
    · rw [h]; exact nextN_ok _ _
    · exact strG_ok c _ _ x h
theorem stream_ok {cell : Int} {many : Nat} : ∀ x ∈ stream cell many, 0 ≤ x ∧ x < 2147483647 := fun x h => strG_ok _ _ _ x (List.mem_of_mem_drop h)
def rngI (lo : Int) (n : Nat) : List Int := (List.range n).map fun i : Nat => lo + (i : Int)
theorem strL (c : Nat) : ∀ (k : Nat) (n : Int) (acc : List Int) (x : Slot) (cell many : Int), (k : Int) + c < 100000 → 0 ≤ n → n < 4294967296 → acc.length = k →
    ∃ n' x', forL (.nm 4) (sSeq (sAs 3 (e2 true oMod (e2 true oAdd (e2 true oAdd (e2 true oMul (eVar 3) (eVar 3)) (e2 true oMul (eC (.int 48271)) (eVar 3))) (eVar 4)) (eC (.int 2147483647)))) (sApp true (lVar 2) (eUse 3)))
      ((List.range' k c).map fun (i : Nat) => D.int (i : Int)) [some (0, .int cell), some (0, .int many), some (1, .lst (acc.map .int)), some (0, .int n), x] =
    .nx [some (0, .int cell), some (0, .int many), some (1, .lst ((acc ++ strG c k n).map .int)), some (0, .int n'), x'] := by
  induction c with
  | zero => intro k n acc x cell many _ _ _ _; exact ⟨n, x, by simp [forL, strG]⟩
  | succ c ih =>
    intro k n acc x cell many h1 h2 h3 h4
    obtain ⟨n', x', e⟩ := ih (k + 1) (nextN n k) (acc ++ [nextN n k]) (some (0, .int k)) cell many (by omega) (nextN_ok n k).1 (by have := (nextN_ok n k).2; omega) (by simp [h4])
    refine ⟨n', x', ?_⟩
    rw [List.range'_succ, List.map_cons]
    unfold forL
    have hm : oMul ⟨0, false, .int n⟩ ⟨0, false, .int n⟩ = some (pureV (.int (n * n))) := oMul_l (by omega)
    have hm2 : oMul ⟨0, false, .int 48271⟩ ⟨0, false, .int n⟩ = some (pureV (.int (48271 * n))) := oMul_l (by omega)
    have hl : acc.length < BIG := Nat.lt_of_lt_of_le (show acc.length < 100000 by omega) (by decide)
    simp [hm, hm2, hl]
    simpa [strG, nextN] using e
theorem rb_nat {n : Nat} (h : n < 1000000) : RB (n : Int) := by unfold RB; omega
theorem F_stream (cell : Int) (many : Nat) (hm : many < 1000) : F__law_stream [pureV (.int cell), pureV (.int many)] = .ok ⟨1, false, .lst ((stream cell many).map .int)⟩ [none, none] := by
  unfold F__law_stream runFn c__law_stream
  obtain ⟨n', x', e⟩ := strL (many + 1) 0 (cell % 2147483647 + 48271) [] none cell many (by omega) (by have := Int.emod_nonneg cell (show (2147483647 : Int) ≠ 0 by decide); omega) (by have := Int.emod_lt_of_pos cell (show (0 : Int) < 2147483647 by decide); omega) rfl
  have hb : RB ((many : Int) + 1) := by unfold RB; omega
  simp only [List.map_nil, List.nil_append] at e
  simp [enter, eq_true hb, rng0, e, cutD_1, stream]
end Pd
end
section
namespace Pd
open PySem L2
structure Sp where
  zones : D
  cs : List Int
  lap : Int
  skew : Int
  sw : List Int
def Sp.d (s : Sp) : D := .tup [s.zones, .lst (s.cs.map .int), .int s.lap, .int s.skew, .lst (s.sw.map .int)]
structure SpOk (s : Sp) : Prop where
  cb : ∀ c ∈ s.cs, 1 ≤ c ∧ c ≤ 60
  lb : 1 ≤ s.lap ∧ s.lap ≤ 1000000000
  kb : 0 ≤ s.skew ∧ s.skew < s.lap
  nb : 2 ≤ s.cs.length ∧ s.cs.length ≤ 120
  wl : s.sw.length = s.cs.length
theorem SpOk.c {s : Sp} (h : SpOk s) {r : Int} (h1 : 0 ≤ r) (h2 : r < s.cs.length) : 1 ≤ getI s.cs r ∧ getI s.cs r ≤ 60 := by
  refine h.cb _ ?_
  have : r.toNat < s.cs.length := by omega
  unfold getI
  rw [List.getD_eq_getElem?_getD, List.getElem?_eq_getElem this]
  exact List.getElem_mem this
structure Md where
  bK : List (List Key)
  bD : List D
  mK : List Key
  mD : List D
  lK : List (List Key)
  lD : List D
structure Pl where
  s : Sp
  spare : Int
  md : Option Md
def Pl.d (p : Pl) : D := match p.md with
  | none => .ins .n_Plate [.n_counts, .n_lap, .n_skew, .n_swings, .n_spare] [.frl (p.s.cs.map .int), .int p.s.lap, .int p.s.skew, .frl (p.s.sw.map .int), .int p.spare]
  | some m => .ins .n_Mended [.n_counts, .n_lap, .n_skew, .n_swings, .n_spare, .n_bad, .n_moved, .n_lies] [.frl (p.s.cs.map .int), .int p.s.lap, .int p.s.skew, .frl (p.s.sw.map .int), .int p.spare, .dt m.bK m.bD, .dk m.mK m.mD, .dt m.lK m.lD]
section
variable {p : Pl} {m : Nat} {b : Bool}
theorem fl_counts : oFld ft .n_counts ⟨m, b, p.d⟩ = some (pureV (.frl (p.s.cs.map .int))) := by
  have e1 : Nm.n_counts ∈ ft .n_Plate := by decide
  have e2 : Nm.n_counts ∈ ft .n_Mended := by decide
  unfold Pl.d; cases p.md <;> simp [oFld, lookN, part, e1, e2]
theorem fl_lap : oFld ft .n_lap ⟨m, b, p.d⟩ = some (pureV (.int p.s.lap)) := by
  have e1 : Nm.n_lap ∈ ft .n_Plate := by decide
  have e2 : Nm.n_lap ∈ ft .n_Mended := by decide
  unfold Pl.d; cases p.md <;> simp [oFld, lookN, part, e1, e2]
theorem fl_skew : oFld ft .n_skew ⟨m, b, p.d⟩ = some (pureV (.int p.s.skew)) := by
  have e1 : Nm.n_skew ∈ ft .n_Plate := by decide
  have e2 : Nm.n_skew ∈ ft .n_Mended := by decide
  unfold Pl.d; cases p.md <;> simp [oFld, lookN, part, e1, e2]
theorem fl_swings : oFld ft .n_swings ⟨m, b, p.d⟩ = some (pureV (.frl (p.s.sw.map .int))) := by
  have e1 : Nm.n_swings ∈ ft .n_Plate := by decide
  have e2 : Nm.n_swings ∈ ft .n_Mended := by decide
  unfold Pl.d; cases p.md <;> simp [oFld, lookN, part, e1, e2]
theorem fl_spare : oFld ft .n_spare ⟨m, b, p.d⟩ = some (pureV (.int p.spare)) := by
  have e1 : Nm.n_spare ∈ ft .n_Plate := by decide
  have e2 : Nm.n_spare ∈ ft .n_Mended := by decide
  unfold Pl.d; cases p.md <;> simp [oFld, lookN, part, e1, e2]
theorem imm_pl : immut p.d = false := by unfold Pl.d; cases p.md <;> rfl
theorem rc_total : recv mt_total_1 .n_total ⟨m, b, p.d⟩ = some (1, F_Plate_total, []) := by unfold Pl.d; cases p.md <;> rfl
end
def beats (s : Sp) (r : Int) : Int := s.lap / getI s.cs r
def beginsI (s : Sp) (r k : Int) : Int := (k * beats s r + r * s.skew) % s.lap
end Pd
end
section
namespace Pd
open PySem L2
def cellD (c : Int × Int) : D := .tup [.int c.1, .int c.2]
def CellOk (s : Sp) (c : Int × Int) : Prop := 0 ≤ c.1 ∧ c.1 < s.cs.length ∧ 0 ≤ c.2 ∧ c.2 ≤ 1000
def nextB (s : Sp) (r k beat : Int) : Int := beat + (beginsI s r k - beat) % s.lap
/-! the rows of a way -/
def stepB (s : Sp) (ring beat r k : Int) : Int := nextB s r k (beat + getI s.sw (absI (ring - r)))
def wayRows (s : Sp) : Int → Int → List (Int × Int) → List D
  | _, _, [] => []
  | ring, beat, (r, k) :: cs => .tup [.int r, .int k, .int (stepB s ring beat r k), .int (stepB s ring beat r k + beats s r)] :: wayRows s r (stepB s ring beat r k + beats s r) cs
def wayE (s : Sp) : Int → Int → List (Int × Int) → Int × Int
  | ring, beat, [] => (ring, beat)
  | ring, beat, (r, k) :: cs => wayE s r (stepB s ring beat r k + beats s r) cs
theorem absI_ok {s : Sp} {a b : Int} (h1 : 0 ≤ a) (h2 : a < s.cs.length) (h3 : 0 ≤ b) (h4 : b < s.cs.length) : 0 ≤ absI (a - b) ∧ absI (a - b) < s.cs.length := by
  unfold absI
  split <;> constructor <;> omega
end Pd
namespace Pd
open PySem L2
/-! a way's end -/
/-! the law's own walk -/
theorem modS (x b n : Int) : (x % n - b) % n = (x - b) % n := by
  rw [Int.sub_emod, Int.emod_emod_of_dvd _ (Int.dvd_refl n), ← Int.sub_emod]
theorem lwalkL {s : Sp} (h : SpOk s) : ∀ (cells : List (Int × Int)) (ring beat : Int) (acc : List D) (d3 : D) (x5 x6 x7 x8 x9 : Slot), (∀ c ∈ cells, CellOk s c) → 0 ≤ ring → ring < s.cs.length → acc.length + cells.length < 100000 →
    ∃ y5 y6 y7 y8 y9, forL (.tp [5, 6]) (sSeq (sAs 7 (e2 true oDiv (e2 true oIdx (eVar 0) (eC (.int 2))) (e2 true oIdx (e2 true oIdx (eVar 0) (eC (.int 1))) (eVar 5)))) (sSeq (sAs 8 (e2 true oAdd (eVar 2) (e2 true oIdx (e2 true oIdx (eVar 0) (eC (.int 4))) (e1 oAbs (e2 true oSub (eVar 1) (eVar 5)))))) (sSeq (sAs 9 (e2 true oAdd (eVar 8) (e2 true oMod (e2 true oSub (e2 true oAdd (e2 true oMul (eVar 6) (eVar 7)) (e2 true oMul (eVar 5) (e2 true oIdx (eVar 0) (eC (.int 3))))) (eVar 8)) (e2 true oIdx (eVar 0) (eC (.int 2)))))) (sSeq (sAs 1 (eUse 5)) (sSeq (sAs 2 (e2 true oAdd (eVar 9) (eVar 7))) (sApp true (lVar 4) (eTup [.ev (eUse 5), .ev (eUse 6), .ev (eUse 9), .ev (eUse 2)])))))))
      (cells.map cellD) [some (0, s.d), some (0, .int ring), some (0, .int beat), some (0, d3), some (1, .lst acc), x5, x6, x7, x8, x9] =
    .nx [some (0, s.d), some (0, .int (wayE s ring beat cells).1), some (0, .int (wayE s ring beat cells).2), some (0, d3), some (1, .lst (acc ++ wayRows s ring beat cells)), y5, y6, y7, y8, y9]
  | [], ring, beat, acc, d3, x5, x6, x7, x8, x9, _, _, _, _ => ⟨x5, x6, x7, x8, x9, by simp [forL, wayE, wayRows]⟩
  | (r, k) :: cs, ring, beat, acc, d3, x5, x6, x7, x8, x9, hc, h1, h2, hl => by
    have c0 := hc (r, k) List.mem_cons_self
    obtain ⟨c1, c2, c3, c4⟩ := c0
    have ha := absI_ok h1 h2 c1 c2
    have hn := h.nb
    have hlb := h.lb
    have hcr : 1 ≤ getI s.cs r ∧ getI s.cs r ≤ 60 := h.c c1 c2
    rw [List.length_cons] at hl
    obtain ⟨y5, y6, y7, y8, y9, e⟩ := lwalkL h cs r (stepB s ring beat r k + beats s r) (acc ++ [.tup [.int r, .int k, .int (stepB s ring beat r k), .int (stepB s ring beat r k + beats s r)]]) d3 (some (0, .int r)) (some (0, .int k)) (some (0, .int (beats s r))) (some (0, .int (beat + getI s.sw (absI (ring - r))))) (some (0, .int (stepB s ring beat r k))) (fun c hh => hc c (List.mem_cons_of_mem _ hh)) c1 c2 (by rw [List.length_append, List.length_singleton]; omega)
    refine ⟨y5, y6, y7, y8, y9, ?_⟩
    rw [List.map_cons]
    unfold forL
    have hb : acc.length < BIG := Nat.lt_of_lt_of_le (show acc.length < 100000 by omega) (by decide)
    have z4 : (4 : Nat) ≤ BIG := by decide
    have i1 : atI [s.zones, .lst (s.cs.map .int), .int s.lap, .int s.skew, .lst (s.sw.map .int)] 1 = some (.lst (s.cs.map .int)) := rfl
    have i2 : atI [s.zones, .lst (s.cs.map .int), .int s.lap, .int s.skew, .lst (s.sw.map .int)] 2 = some (.int s.lap) := rfl
    have i3 : atI [s.zones, .lst (s.cs.map .int), .int s.lap, .int s.skew, .lst (s.sw.map .int)] 3 = some (.int s.skew) := rfl
    have i4 : atI [s.zones, .lst (s.cs.map .int), .int s.lap, .int s.skew, .lst (s.sw.map .int)] 4 = some (.lst (s.sw.map .int)) := rfl
    have q1 : oMul ⟨0, false, .int k⟩ ⟨0, false, .int (beats s r)⟩ = some (pureV (.int (k * beats s r))) := oMul_l (by omega)
    have q2 : oMul ⟨0, false, .int r⟩ ⟨0, false, .int s.skew⟩ = some (pureV (.int (r * s.skew))) := oMul_l (by omega)
    have q4 : oDiv ⟨0, false, .int s.lap⟩ ⟨0, false, .int (getI s.cs r)⟩ = some (pureV (.int (beats s r))) := oDiv_i (by omega) (by omega)
    have q3 : ∀ x : Int, oMod ⟨0, false, .int x⟩ ⟨0, false, .int s.lap⟩ = some (pureV (.int (x % s.lap))) := fun x => oMod_i (by omega)
    have e4 : beat + getI s.sw (absI (ring - r)) + (k * beats s r + r * s.skew - (beat + getI s.sw (absI (ring - r)))) % s.lap = stepB s ring beat r k := by
      unfold stepB nextB beginsI
      rw [modS]
    simp [cellD, Sp.d, i1, i2, i3, i4, atI_int c1 c2, atI_int ha.1 (by rw [h.wl]; exact ha.2), q1, q2, q3, q4, e4, hb, z4]
    simpa [wayRows, wayE, Sp.d] using e
theorem law_walk_k {s : Sp} (h : SpOk s) {cells : List (Int × Int)} {ring beat : Int} (hc : ∀ c ∈ cells, CellOk s c) (h1 : 0 ≤ ring) (h2 : ring < s.cs.length) (hl : cells.length < 100000) :
    F__law_walk [pureV s.d, pureV (.int ring), pureV (.int beat), pureV (.lst (cells.map cellD))] = .ok ⟨1, false, .lst (wayRows s ring beat cells)⟩ [none, none, none, none] := by
  unfold F__law_walk runFn c__law_walk
  obtain ⟨y5, y6, y7, y8, y9, e⟩ := lwalkL h cells ring beat [] (.lst (cells.map cellD)) none none none none none hc h1 h2 (by simpa using hl)
  simp only [List.nil_append] at e
  simp [enter, e]
theorem behindL {s : Sp} : ∀ (cells : List (Int × Int)) (ring beat : Int) (d0 d3 : D) (x4 : Slot),
    ∃ y4, forL (.nm 4) (sSeq (sAs 1 (e2 true oIdx (eVar 4) (eC (.int 0)))) (sAs 2 (e2 true oIdx (eVar 4) (eC (.int 3))))) (wayRows s ring beat cells) [some (0, d0), some (0, .int ring), some (0, .int beat), some (0, d3), x4] =
    .nx [some (0, d0), some (0, .int (wayE s ring beat cells).1), some (0, .int (wayE s ring beat cells).2), some (0, d3), y4]
  | [], ring, beat, d0, d3, x4 => ⟨x4, by simp [forL, wayE, wayRows]⟩
  | (r, k) :: cs, ring, beat, d0, d3, x4 => by
    obtain ⟨y4, e⟩ := behindL (s := s) cs r (stepB s ring beat r k + beats s r) d0 d3 (some (0, .tup [.int r, .int k, .int (stepB s ring beat r k), .int (stepB s ring beat r k + beats s r)]))
    refine ⟨y4, ?_⟩
    unfold wayRows forL
    have i0 : ∀ a b c d : D, atI [a, b, c, d] 0 = some a := fun _ _ _ _ => rfl
    have i3 : ∀ a b c d : D, atI [a, b, c, d] 3 = some d := fun _ _ _ _ => rfl
    simp [i0, i3]
    simpa [wayE] using e
theorem behind_way_k {s : Sp} (h : SpOk s) {cells : List (Int × Int)} {ring beat : Int} (hc : ∀ c ∈ cells, CellOk s c) (h1 : 0 ≤ ring) (h2 : ring < s.cs.length) (hl : cells.length < 100000) :
    F__law_behind_way [pureV s.d, pureV (.int ring), pureV (.int beat), pureV (.lst (cells.map cellD))] = .ok (pureV (.tup [.int (wayE s ring beat cells).1, .int (wayE s ring beat cells).2])) [none, none, none, none] := by
  unfold F__law_behind_way runFn c__law_behind_way
  have hw := law_walk_k h (beat := beat) hc h1 h2 hl
  obtain ⟨y4, e⟩ := behindL (s := s) cells ring beat s.d (.lst (cells.map cellD)) none
  simp [enter, hw, e]
end Pd
end
section
namespace Pd
open PySem L2
def ownSum (sp : Int) : List Int → Int
  | [] => 0
  | c :: cs => (c - sp) + ownSum sp cs
def pcell (sp : Int) : List Int → Int → Int → Option (Int × Int)
  | [], _, _ => none
  | c :: cs, r, n => if n < c - sp then some (r, n) else pcell sp cs (r + 1) (n - (c - sp))
theorem pcell_ok {sp : Int} (hs : 0 ≤ sp) : ∀ {cs : List Int} {r n : Int}, (∀ c ∈ cs, c ≤ 60) → 0 ≤ n → n < ownSum sp cs → ∃ c, pcell sp cs r n = some c ∧ r ≤ c.1 ∧ c.1 < r + cs.length ∧ 0 ≤ c.2 ∧ c.2 ≤ 1000
  | [], r, n, _, h1, h2 => by simp [ownSum] at h2; omega
  | c :: cs, r, n, hc, h1, h2 => by
    unfold pcell
    by_cases h : n < c - sp
    · rw [if_pos h]
      have := hc c List.mem_cons_self
      exact ⟨_, rfl, Int.le_refl _, by rw [List.length_cons]; omega, h1, by omega⟩
    · rw [if_neg h]
      unfold ownSum at h2
      obtain ⟨d, e, h3, h4, h5, h6⟩ := pcell_ok hs (r := r + 1) (n := n - (c - sp)) (fun x hx => hc x (List.mem_cons_of_mem _ hx)) (by omega) (by omega)
      exact ⟨d, e, by omega, by rw [List.length_cons]; omega, h5, h6⟩
theorem plainL {p : Pl} (h : SpOk p.s) {m : Nat} : ∀ (rest : List Int) (j : Nat) (n left : Int) (x3 x4 : Slot), p.s.cs.drop j = rest → 0 ≤ left → left < ownSum p.spare rest →
    ∃ y2 y3 y4 c, pcell p.spare rest j left = some c ∧ forL (.nm 3) (sSeq (sAs 4 (e2 true oSub (e2 true oIdx (eFld ft .n_counts (eVar 0)) (eVar 3)) (eFld ft .n_spare (eVar 0)))) (sSeq (sIf (e2 true (oB0 fun i j => decide (i < j)) (eVar 2) (eVar 4)) (sRt (eTup [.ev (eUse 3), .ev (eUse 2)])) (sNil)) (sAs 2 (e2 true oSub (eVar 2) (eVar 4)))))
      ((List.range' j rest.length).map fun i : Nat => D.int (i : Int)) [some (m, p.d), some (0, .int n), some (0, .int left), x3, x4] = .rt (pureV (cellD c)) [some (m, p.d), some (0, .int n), y2, y3, y4]
  | [], j, n, left, x3, x4, _, h1, h2 => by simp [ownSum] at h2; omega
  | c :: cs, j, n, left, x3, x4, hd, h1, h2 => by
    have hj : j < p.s.cs.length := by
      rcases Nat.lt_or_ge j p.s.cs.length with q | q
      · exact q
      · rw [List.drop_eq_nil_of_le q] at hd; cases hd
    have hg : getI p.s.cs (j : Int) = c := by
      rw [List.drop_eq_getElem_cons hj] at hd
      injection hd with e1 e2
      unfold getI
      simp [List.getD_eq_getElem?_getD, List.getElem?_eq_getElem hj, e1]
    have hat : atI (p.s.cs.map D.int) (j : Int) = some (.int c) := by rw [atI_int (by omega) (by omega), hg]
    have hd2 : p.s.cs.drop (j + 1) = cs := by
      rw [List.drop_eq_getElem_cons hj] at hd
      injection hd with e1 e2
    rw [List.length_cons, List.range'_succ, List.map_cons]
    unfold forL pcell
    by_cases hl : left < c - p.spare
    · rw [if_pos hl]
      refine ⟨some (0, .int left), some (0, .int j), some (0, .int (c - p.spare)), ((j : Int), left), rfl, ?_⟩
      by_cases hm : m = 0 <;> simp [imm_pl, hm, fl_counts, fl_spare, hat, hl, cellD]
    · rw [if_neg hl]
      unfold ownSum at h2
      obtain ⟨y2, y3, y4, d, e1, e2⟩ := plainL h (m := m) cs (j + 1) n (left - (c - p.spare)) (some (0, .int j)) (some (0, .int (c - p.spare))) hd2 (by omega) (by omega)
      refine ⟨y2, y3, y4, d, by simpa using e1, ?_⟩
      by_cases hm : m = 0
      · subst hm
        simp [imm_pl, fl_counts, fl_spare, hat, hl]
        simpa using e2
      · simp [imm_pl, hm, fl_counts, fl_spare, hat, hl]
        simpa using e2
theorem plain_cell_k {p : Pl} (h : SpOk p.s) {m : Nat} {n : Int} (h1 : 0 ≤ n) (h2 : n < ownSum p.spare p.s.cs) : ∃ c, pcell p.spare p.s.cs 0 n = some c ∧ F_Plate_plain_cell [⟨m, false, p.d⟩, pureV (.int n)] = .ok (pureV (cellD c)) [some (m, p.d), none] := by
  obtain ⟨y2, y3, y4, c, e1, e2⟩ := plainL h (m := m) p.s.cs 0 n n none none rfl h1 h2
  refine ⟨c, by simpa using e1, ?_⟩
  unfold F_Plate_plain_cell runFn c_Plate_plain_cell
  have hb : RB (p.s.cs.length : Int) := by have := h.nb; unfold RB; omega
  have hn : ¬ (n < 0) := by omega
  by_cases hm : m = 0
  · subst hm
    simp [enter, imm_pl, fl_counts, hn, eq_true hb, rng0, e2]
  · simp [enter, imm_pl, hm, fl_counts, hn, eq_true hb, rng0, e2]
/-! the cell of a number, the bad ones moved -/
structure PlOk (p : Pl) : Prop where
  s : SpOk p.s
  sp : 0 ≤ p.spare
  mv : ∀ m, p.md = some m → ∀ n d, lookD m.mK m.mD (.inl n) = some d → ∃ c, d = cellD c ∧ CellOk p.s c
def cellOf (p : Pl) (n : Int) : D := match p.md with
  | none => ((pcell p.spare p.s.cs 0 n).map cellD).getD .non
  | some m => match lookD m.mK m.mD (.inl n) with
    | some d => d
    | none => ((pcell p.spare p.s.cs 0 n).map cellD).getD .non
def totalI (p : Pl) : Int := p.s.cs.sum - p.spare * p.s.cs.length
theorem own_total {sp : Int} : ∀ cs : List Int, ownSum sp cs = cs.sum - sp * cs.length
  | [] => by simp [ownSum]
  | c :: cs => by
    unfold ownSum
    rw [own_total cs, List.sum_cons, List.length_cons]
    have : sp * ((cs.length + 1 : Nat) : Int) = sp * cs.length + sp := by
      rw [Int.natCast_succ, Int.mul_add, Int.mul_one]
    omega
theorem cellOf_ok {p : Pl} (h : PlOk p) {n : Int} (h1 : 0 ≤ n) (h2 : n < totalI p) : ∃ c, cellOf p n = cellD c ∧ CellOk p.s c := by
  have base : ∃ c, ((pcell p.spare p.s.cs 0 n).map cellD).getD .non = cellD c ∧ CellOk p.s c := by
    obtain ⟨c, e, a1, a2, a3, a4⟩ := pcell_ok h.sp (cs := p.s.cs) (r := 0) (n := n) (fun c hc => (h.s.cb c hc).2) h1 (by rw [own_total]; exact h2)
    exact ⟨c, by rw [e]; rfl, a1, by omega, a3, a4⟩
  unfold cellOf
  split
  · exact base
  · rename_i m hm
    split
    · rename_i d hd
      exact h.mv m hm n d hd
    · exact base
theorem total_k {p : Pl} (h : PlOk p) {m : Nat} : F_Plate_total [⟨m, false, p.d⟩] = .ok (pureV (.int (totalI p))) [some (m, p.d)] := by
  have hn := h.s.nb
  have q1 : oMul ⟨0, false, .int p.spare⟩ ⟨0, false, .int p.s.cs.length⟩ = some (pureV (.int (p.spare * p.s.cs.length))) := oMul_r (by omega)
  have q2 : oSum ⟨0, false, .frl (p.s.cs.map .int)⟩ = some (pureV (.int p.s.cs.sum)) := by simp [oSum, lsOf]
  unfold F_Plate_total runFn c_Plate_total
  by_cases hm : m = 0
  · subst hm
    simp [enter, imm_pl, fl_counts, fl_spare, q1, q2, totalI]
  · simp [enter, imm_pl, hm, fl_counts, fl_spare, q1, q2, totalI]
end Pd
end
section
namespace Pd
open PySem L2
theorem rc_plain {p : Pl} {m : Nat} {b : Bool} : recv mt_plain_cell_2 .n_plain_cell ⟨m, b, p.d⟩ = some (2, F_Plate_plain_cell, []) := by unfold Pl.d; cases p.md <;> rfl
theorem cell_at_k {p : Pl} (h : PlOk p) {n : Int} (h1 : 0 ≤ n) (h2 : n < totalI p) : ∃ cl, recv mt_cell_at_2 .n_cell_at ⟨0, false, p.d⟩ = some (2, cl, []) ∧ cl [⟨0, false, p.d⟩, pureV (.int n)] = .ok (pureV (cellOf p n)) [some (0, p.d), none] := by
  obtain ⟨c, e1, e2⟩ := plain_cell_k h.s (m := 0) h1 (by rw [own_total]; exact h2)
  cases hm : p.md with
  | none =>
    refine ⟨F_Plate_cell_at, by unfold Pl.d; rw [hm]; rfl, ?_⟩
    unfold F_Plate_cell_at runFn c_Plate_cell_at
    simp [enter, run_methI, rc_plain, e2, cellOf, hm, e1]
  | some md =>
    refine ⟨F_Mended_cell_at, by unfold Pl.d; rw [hm]; rfl, ?_⟩
    have m1 : Nm.n_moved ∈ ft .n_Mended := by decide
    have fm : oFld ft .n_moved ⟨0, false, p.d⟩ = some (pureV (.dk md.mK md.mD)) := by
      unfold Pl.d; rw [hm]; simp [oFld, lookN, m1]
    have hk : keyOf (.int n) = some (.inl n) := rfl
    unfold F_Mended_cell_at runFn c_Mended_cell_at
    cases hl : lookD md.mK md.mD (.inl n) with
    | none =>
      have q1 : oDin false ⟨0, false, .int n⟩ ⟨0, false, .dk md.mK md.mD⟩ = some (pureV (.bl false)) := by
        simp [oDin, dGet, hk, hl]
      simp [enter, run_methI, rc_plain, e2, cellOf, hm, e1, fm, q1, hl]
    | some d =>
      have q1 : oDin false ⟨0, false, .int n⟩ ⟨0, false, .dk md.mK md.mD⟩ = some (pureV (.bl true)) := by
        simp [oDin, dGet, hk, hl]
      have q2 : oDget ⟨0, false, .dk md.mK md.mD⟩ ⟨0, false, .int n⟩ = some (pureV d) := by
        simp [oDget, dGet, hk, hl]
      simp [enter, cellOf, hm, fm, q1, q2, hl]
/-! a stretch -/
theorem lcAt {p : Pl} (h : PlOk p) {first : Int} {many : Nat} (h1 : 0 ≤ first) (h2 : first + many ≤ totalI p) (hm : many ≤ BIG) {vs : List Nat} {iv ip : Nat} {fe : EF} {ρ : Vr} (lo : Int)
    (hfe : ∀ j : Nat, j < many → ∃ ρ3, (∃ ρ1, bindT (.nm iv) (.int (lo + j)) ρ = some ρ1 ∧ fe ρ1 = .ok (pureV (cellOf p (first + j))) ρ3) ∧ wipeV ρ3 vs = ρ) :
    compL vs (.nm iv) (eC (.bl true)) fe (rng lo many) [] ρ = .ok ⟨1, false, .lst ((List.range many).map fun j : Nat => cellOf p (first + j))⟩ ρ := by
  have := compL_ok (vs := vs) (t := .nm iv) (ft := eC (.bl true)) (fe := fe) (ρ := ρ) (fun _ => true) (fun d => match d with
    | .int x => cellOf p (first + (x - lo))
    | _ => .non) (rng lo many) [] ?_ (by simp [rng]; exact hm)
  · rw [this, List.nil_append, List.filter_eq_self.mpr (by simp)]
    congr 2
    unfold rng
    rw [List.map_map]
    congr 1
    apply List.map_congr_left
    intro j _
    show cellOf p (first + (lo + (j : Int) - lo)) = _
    congr 1; omega
  · intro d hd
    unfold rng at hd
    obtain ⟨j, hj, rfl⟩ := List.mem_map.mp hd
    obtain ⟨ρ3, ⟨ρ1, e1, e2⟩, e3⟩ := hfe j (List.mem_range.mp hj)
    refine ⟨ρ1, 0, false, ρ1, e1, rfl, fun z => by simp at z, fun _ => ⟨0, ρ3, ?_, e3⟩⟩
    rw [e2]
    congr 1
    show (⟨0, false, cellOf p (first + j)⟩ : RV) = ⟨0, false, cellOf p (first + (lo + (j : Int) - lo))⟩
    congr 2; omega
def cellsOf (p : Pl) (first : Int) (many : Nat) : List D := (List.range many).map fun j : Nat => cellOf p (first + j)
theorem run_lc {vs : List Nat} {t : Tg} {fi : IF} {ft fe : EF} {ρ : Vr} : eLc vs t fi ft fe ρ = (fi ρ).bindE fun items _ ρ1 => compL vs t ft fe items [] (wipeV ρ1 vs) := nr rfl
/-! asks -/
def askD (kind : Str) (first many : Int) (marks : D) (at_ asker : Int) (latest : D) (behind : D) (early : Bool) : D :=
  .ins .n_Ask [.n_kind, .n_first, .n_many, .n_marks, .n_at, .n_asker, .n_latest, .n_behind, .n_early] [.str kind, .int first, .int many, marks, .int at_, .int asker, latest, behind, .bl early]
section
variable {kind : Str} {first many at_ asker : Int} {marks latest behind : D} {early : Bool} {m : Nat} {b : Bool}
theorem fa_first : oFld ft .n_first ⟨m, b, askD kind first many marks at_ asker latest behind early⟩ = some (pureV (.int first)) := by
  have e1 : Nm.n_first ∈ ft .n_Ask := by decide
  simp [askD, oFld, lookN, e1]
theorem fa_many : oFld ft .n_many ⟨m, b, askD kind first many marks at_ asker latest behind early⟩ = some (pureV (.int many)) := by
  have e1 : Nm.n_many ∈ ft .n_Ask := by decide
  simp [askD, oFld, lookN, e1]
theorem fa_at : oFld ft .n_at ⟨m, b, askD kind first many marks at_ asker latest behind early⟩ = some (pureV (.int at_)) := by
  have e1 : Nm.n_at ∈ ft .n_Ask := by decide
  simp [askD, oFld, lookN, e1]
theorem imm_ask : immut (askD kind first many marks at_ asker latest behind early) = false := rfl
theorem stretch_k {p : Pl} (h : PlOk p) {n : Nat} (h1 : 0 ≤ first) (h2 : first + n ≤ totalI p) (hn : n ≤ 1000) (hf : first < 1000000) : F_stretch [pureV p.d, pureV (askD kind first n marks at_ asker latest behind early)] = .ok ⟨1, false, .lst (cellsOf p first n)⟩ [none, none] := by
  have hb : RB first := by unfold RB; omega
  have hb2 : RB (first + (n : Int)) := by unfold RB; omega
  have ht : (first + (n : Int) - first).toNat = n := by omega
  have hbig : n ≤ BIG := Nat.le_trans hn (by decide)
  unfold F_stretch runFn c_stretch
  have lc := lcAt h h1 h2 hbig (vs := [2]) (iv := 2) (ip := 0) (fe := eMeth (mt_cell_at_2) .n_cell_at (.io 0) [.ev (eUse 2)]) (ρ := [some (0, p.d), some (0, askD kind first n marks at_ asker latest behind early), none]) first (fun j hj => by
    obtain ⟨cl, r1, r2⟩ := cell_at_k h (n := first + j) (by omega) (by omega)
    refine ⟨[some (0, p.d), some (0, askD kind first n marks at_ asker latest behind early), some (0, .int (first + j))], ⟨[some (0, p.d), some (0, askD kind first n marks at_ asker latest behind early), some (0, .int (first + j))], by simp, ?_⟩, by simp [wipeV]⟩
    simp [run_methI, r1, r2])
  simp [enter, run_lc, fa_first, fa_many, eq_true hb, eq_true hb2, ht, wipeV, lc, cellsOf]
end
end Pd
end
section
namespace Pd
open PySem L2
section
@[simp] theorem ma1 : Nm.n_kind ∈ ft .n_Ask := by decide
@[simp] theorem ma2 : Nm.n_first ∈ ft .n_Ask := by decide
@[simp] theorem ma3 : Nm.n_many ∈ ft .n_Ask := by decide
@[simp] theorem ma4 : Nm.n_marks ∈ ft .n_Ask := by decide
@[simp] theorem ma5 : Nm.n_at ∈ ft .n_Ask := by decide
@[simp] theorem ma6 : Nm.n_asker ∈ ft .n_Ask := by decide
@[simp] theorem ma7 : Nm.n_latest ∈ ft .n_Ask := by decide
@[simp] theorem ma8 : Nm.n_behind ∈ ft .n_Ask := by decide
@[simp] theorem ma9 : Nm.n_early ∈ ft .n_Ask := by decide
@[simp] theorem md1 : Nm.n_number ∈ ft .n_Due := by decide
@[simp] theorem md2 : Nm.n_ask ∈ ft .n_Due := by decide
@[simp] theorem md3 : Nm.n_cells ∈ ft .n_Due := by decide
variable {kind : Str} {first many at_ asker : Int} {marks latest behind : D} {early : Bool} {m : Nat} {b : Bool}
theorem ask_init_k (hm : immut marks = true) : F_AskUU_initUU [⟨1, false, .ins .n_Ask [] []⟩, pureV (.str kind), pureV (.int first), pureV (.int many), pureV marks, pureV (.int at_)] = .ok (pureV .non) [some (1, askD kind first many marks at_ 0 .non (.tup []) false), none, none, none, none, none] := by
  unfold F_AskUU_initUU runFn c_AskUU_initUU
  simp [enter, putNs, putDs, askD]
theorem check_k {n most : Int} (h1 : 0 ≤ n) (h2 : n ≤ most) : F_check [pureV (.int n), pureV (.int most)] = .ok (pureV .non) [none, none] := by
  unfold F_check runFn c_check
  simp [enter, h1, h2, bLe]
def Rise : Int → List Int → Prop
  | _, [] => True
  | l, b :: bs => l < b ∧ 0 ≤ b ∧ b ≤ 99 ∧ Rise b bs
theorem restL (dA d1 d2 d3 : D) (q : Nat) : ∀ (bs : List Int) (last : Int) (x5 : Slot), Rise last bs → ∃ y4 y5, forL (.nm 5) (sSeq (sEx (eCall F_check [] [.ev (eUse 5), .ev (eC (.int 99))])) (sSeq (sIf (e2 true (oB0 fun i j => decide (i ≤ j)) (eVar 5) (eVar 4)) (sNever) (sNil)) (sAs 4 (eUse 5)))) (bs.map .int) [some (q, dA), some (0, d1), some (0, d2), some (0, d3), some (0, .int last), x5] = .nx [some (q, dA), some (0, d1), some (0, d2), some (0, d3), y4, y5]
  | [], last, x5, _ => ⟨_, x5, rfl⟩
  | c :: bs, last, x5, ⟨h1, h2, h3, h4⟩ => by
    obtain ⟨y4, y5, e⟩ := restL dA d1 d2 d3 q bs c (some (0, .int c)) h4
    refine ⟨y4, y5, ?_⟩
    rw [List.map_cons]
    unfold forL
    have hn : ¬ (c ≤ last) := by omega
    simp [check_k h2 h3, hn]
    exact e
def LateOk (d : D) : Prop := d = .non ∨ ∃ i : Int, d = .int i ∧ 0 ≤ i ∧ i ≤ 10000000000000
theorem with_rest_k {bs : List Int} (hm : immut marks = true) (h1 : 0 ≤ first ∧ first ≤ 1000000) (h2 : 1 ≤ many ∧ many ≤ 16) (h3 : 0 ≤ at_ ∧ at_ ≤ 1000000000000) (h4 : 0 ≤ asker ∧ asker ≤ 20) (h5 : LateOk latest) (h6 : Rise (-1) bs) :
    F_with_rest [⟨1, false, askD kind first many marks at_ 0 .non (.tup []) false⟩, pureV (.int asker), pureV latest, pureV (.tup (bs.map .int))] = .ok ⟨1, false, askD kind first many marks at_ asker latest (.tup (bs.map .int)) false⟩ [none, none, none, none] := by
  obtain ⟨y4, y5, e⟩ := restL (askD kind first many marks at_ 0 .non (.tup []) false) (.int asker) latest (.tup (bs.map .int)) 1 bs (-1) none h6
  have p6 : oPow ⟨0, false, .int 10⟩ ⟨0, false, .int 6⟩ = some (pureV (.int 1000000)) := by rw [oPow_i (by decide)]; rfl
  have p12 : oPow ⟨0, false, .int 10⟩ ⟨0, false, .int 12⟩ = some (pureV (.int 1000000000000)) := by rw [oPow_i (by decide)]; rfl
  have p13 : oPow ⟨0, false, .int 10⟩ ⟨0, false, .int 13⟩ = some (pureV (.int 10000000000000)) := by rw [oPow_i (by decide)]; rfl
  have k1 := check_k h1.1 h1.2
  have k2 : F_check [pureV (.int (many - 1)), pureV (.int 15)] = _ := check_k (by omega) (by omega)
  have k3 := check_k h3.1 h3.2
  have k4 := check_k h4.1 h4.2
  unfold F_with_rest runFn c_with_rest
  rcases h5 with rfl | ⟨i, rfl, h7, h8⟩
  · simp [enter, imm_ask, fa_first, fa_many, fa_at, p6, p12, p13, k1, k2, k3, k4]
    simp [e]
    simp [askD, putNs, putDs]
  · have k5 := check_k h7 h8
    simp [enter, imm_ask, fa_first, fa_many, fa_at, p6, p12, p13, k1, k2, k3, k4, k5]
    simp [e]
    simp [askD, putNs, putDs]
theorem reading_k {bs : List Int} (h1 : 0 ≤ first ∧ first ≤ 1000000) (h2 : 1 ≤ many ∧ many ≤ 16) (h3 : 0 ≤ at_ ∧ at_ ≤ 1000000000000) (h4 : 0 ≤ asker ∧ asker ≤ 20) (h5 : LateOk latest) (h6 : Rise (-1) bs) :
    F_reading [pureV (.int first), pureV (.int many), pureV (.int at_), pureV (.int asker), pureV latest, pureV (.tup (bs.map .int))] = .ok ⟨1, false, askD "read" first many (.tup []) at_ asker latest (.tup (bs.map .int)) false⟩ [none, none, none, none, none, none] := by
  have k := with_rest_k (kind := "read") (marks := .tup []) (asker := asker) rfl h1 h2 h3 h4 h5 h6
  have k0 := ask_init_k (kind := "read") (first := first) (many := many) (at_ := at_) (marks := .tup []) rfl
  unfold F_reading runFn c_reading
  simp [enter, k0, k]
theorem marksL (d0 d1 d2 d3 d4 d5 d6 : D) : ∀ (ms : List Int) (x7 : Slot), (∀ x ∈ ms, 0 ≤ x ∧ x ≤ 1000000000) → ∃ y7, forL (.nm 7) (sEx (eCall F_check [] [.ev (eUse 7), .ev (e2 true oPow (eC (.int 10)) (eC (.int 9)))])) (ms.map .int) [some (0, d0), some (0, d1), some (0, d2), some (0, d3), some (0, d4), some (0, d5), some (0, d6), x7, none] = .nx [some (0, d0), some (0, d1), some (0, d2), some (0, d3), some (0, d4), some (0, d5), some (0, d6), y7, none]
  | [], x7, _ => ⟨x7, rfl⟩
  | c :: ms, x7, h => by
    obtain ⟨y7, e⟩ := marksL d0 d1 d2 d3 d4 d5 d6 ms (some (0, .int c)) fun x hx => h x (List.mem_cons_of_mem _ hx)
    refine ⟨y7, ?_⟩
    have hc := h c List.mem_cons_self
    have p9 : oPow ⟨0, false, .int 10⟩ ⟨0, false, .int 9⟩ = some (pureV (.int 1000000000)) := by rw [oPow_i (by decide)]; rfl
    rw [List.map_cons]
    unfold forL
    simp [p9, check_k hc.1 hc.2]
    exact e
theorem writing_k {bs ms : List Int} (h1 : 0 ≤ first ∧ first ≤ 1000000) (h2 : 1 ≤ ms.length ∧ ms.length ≤ 16) (h3 : 0 ≤ at_ ∧ at_ ≤ 1000000000000) (h4 : 0 ≤ asker ∧ asker ≤ 20) (h5 : LateOk latest) (h6 : Rise (-1) bs) (h7 : ∀ x ∈ ms, 0 ≤ x ∧ x ≤ 1000000000) :
    F_writing [pureV (.int first), pureV (.lst (ms.map .int)), pureV (.int at_), pureV (.int asker), pureV latest, pureV (.tup (bs.map .int)), pureV (.bl early)] = .ok ⟨1, false, askD "write" first ms.length (.tup (ms.map .int)) at_ asker latest (.tup (bs.map .int)) early⟩ [none, none, none, none, none, none, none] := by
  have k := with_rest_k (kind := "write") (many := ms.length) (marks := .tup (ms.map .int)) (asker := asker) rfl h1 (by omega) h3 h4 h5 h6
  have k0 := ask_init_k (kind := "write") (first := first) (many := ms.length) (at_ := at_) (marks := .tup (ms.map .int)) rfl
  obtain ⟨y7, e⟩ := marksL (.int first) (.lst (ms.map .int)) (.int at_) (.int asker) latest (.tup (bs.map .int)) (.bl early) ms none h7
  unfold F_writing runFn c_writing
  simp [enter, e, k0, k]
  simp [askD, putNs, putDs]
end
end Pd
end
section
namespace Pd
open PySem L2
structure Kn where
  num : Int
  first : Int
  size : Nat
  w : Bool
  beh : List Int
  late : D
  cells : List (Int × Int)
def Kn.d (k : Kn) : D := .tup [.int k.num, .int k.first, .int k.size, .bl k.w, .tup (k.beh.map .int), k.late, .lst (k.cells.map cellD)]
structure KnOk (p : Pl) (k : Kn) : Prop where
  f0 : 0 ≤ k.first
  f1 : k.first + k.size ≤ totalI p
  f2 : k.first ≤ 1000000 - 1
  s1 : 1 ≤ k.size ∧ k.size ≤ 16
  be : Rise (-1) k.beh
  la : LateOk k.late
  ce : k.cells.map cellD = cellsOf p k.first k.size
  ok : ∀ c ∈ k.cells, CellOk p.s c
def marksI (cell : Int) (n : Nat) : List Int := (List.range n).map fun j : Nat => (cell + 7 * (j : Int)) % 1000000001
def askOf (k : Kn) (cell : Int) : D := if k.w then askD "write" k.first k.size (.tup ((marksI cell k.size).map .int)) (cell % 1000000000000) (cell % 21) k.late (.tup (k.beh.map .int)) (cell % 2 == 0)
  else askD "read" k.first k.size (.tup []) (cell % 1000000000000) (cell % 21) k.late (.tup (k.beh.map .int)) false
theorem it0 {a b c d e f g : D} : atI [a, b, c, d, e, f, g] 0 = some a := rfl
theorem it1 {a b c d e f g : D} : atI [a, b, c, d, e, f, g] 1 = some b := rfl
theorem it2 {a b c d e f g : D} : atI [a, b, c, d, e, f, g] 2 = some c := rfl
theorem it3 {a b c d e f g : D} : atI [a, b, c, d, e, f, g] 3 = some d := rfl
theorem it4 {a b c d e f g : D} : atI [a, b, c, d, e, f, g] 4 = some e := rfl
theorem it5 {a b c d e f g : D} : atI [a, b, c, d, e, f, g] 5 = some f := rfl
theorem it6 {a b c d e f g : D} : atI [a, b, c, d, e, f, g] 6 = some g := rfl
theorem lcInt {vs : List Nat} {iv : Nat} {fe : EF} {ρ : Vr} {n : Nat} (g : Nat → D) (hn : n ≤ BIG)
    (hfe : ∀ j : Nat, j < n → ∃ ρ1 ρ3, bindT (.nm iv) (.int (j : Int)) ρ = some ρ1 ∧ fe ρ1 = .ok (pureV (g j)) ρ3 ∧ wipeV ρ3 vs = ρ) :
    compL vs (.nm iv) (eC (.bl true)) fe (rng 0 n) [] ρ = .ok ⟨1, false, .lst ((List.range n).map g)⟩ ρ := by
  have := compL_ok (vs := vs) (t := .nm iv) (ft := eC (.bl true)) (fe := fe) (ρ := ρ) (fun _ => true) (fun d => match d with
    | .int x => g x.toNat
    | _ => .non) (rng 0 n) [] ?_ (by simp [rng]; exact hn)
  · rw [this, List.nil_append, List.filter_eq_self.mpr (by simp)]
    congr 2
    unfold rng
    rw [List.map_map]
    congr 1
    apply List.map_congr_left
    intro j _
    show g (0 + (j : Int)).toNat = _
    congr 1; omega
  · intro d hd
    unfold rng at hd
    obtain ⟨j, hj, rfl⟩ := List.mem_map.mp hd
    obtain ⟨ρ1, ρ3, e1, e2, e3⟩ := hfe j (List.mem_range.mp hj)
    refine ⟨ρ1, 0, false, ρ1, by rw [Int.zero_add]; exact e1, rfl, fun z => by simp at z, fun _ => ⟨0, ρ3, ?_, e3⟩⟩
    rw [e2]
    show RE.ok ⟨0, false, g j⟩ ρ3 = RE.ok ⟨0, false, g (0 + (j : Int)).toNat⟩ ρ3
    congr 3; omega
theorem law_ask_k {p : Pl} {k : Kn} (h : KnOk p k) (cell : Int) : F__law_ask [pureV k.d, pureV (.int cell)] = .ok ⟨1, false, askOf k cell⟩ [none, none] := by
  have p12 : oPow ⟨0, false, .int 10⟩ ⟨0, false, .int 12⟩ = some (pureV (.int 1000000000000)) := by rw [oPow_i (by decide)]; rfl
  have p9 : oPow ⟨0, false, .int 10⟩ ⟨0, false, .int 9⟩ = some (pureV (.int 1000000000)) := by rw [oPow_i (by decide)]; rfl
  have a1 : 0 ≤ cell % 1000000000000 ∧ cell % 1000000000000 ≤ 1000000000000 := by omega
  have a2 : 0 ≤ cell % 21 ∧ cell % 21 ≤ 20 := by omega
  have hs := h.s1
  have hf0 := h.f0
  have hf2 := h.f2
  unfold F__law_ask runFn c__law_ask
  cases hw : k.w with
  | false =>
    have kr := reading_k (first := k.first) (many := k.size) (bs := k.beh) ⟨hf0, by omega⟩ (by omega) a1 a2 h.la h.be
    simp [enter, Kn.d, hw, it0, it1, it2, it3, it4, it5, p12, kr, askOf]
  | true =>
    have hb : RB (k.size : Int) := by unfold RB; omega
    have lm : (marksI cell k.size).length = k.size := by simp [marksI]
    have kr := writing_k (first := k.first) (ms := marksI cell k.size) (bs := k.beh) (early := cell % 2 == 0) ⟨hf0, by omega⟩ (by rw [lm]; omega) a1 a2 h.la h.be (fun x hx => by
      unfold marksI at hx
      obtain ⟨j, _, rfl⟩ := List.mem_map.mp hx
      omega)
    have lc := lcInt (vs := [3]) (iv := 3) (n := k.size) (fe := e2 true oMod (e2 true oAdd (eVar 1) (e2 true oMul (eC (.int 7)) (eVar 3))) (e2 true oAdd (e2 true oPow (eC (.int 10)) (eC (.int 9))) (eC (.int 1)))) (ρ := [some (0, .tup [.int k.num, .int k.first, .int k.size, .bl true, .tup (k.beh.map .int), k.late, .lst (k.cells.map cellD)]), some (0, .int cell), none, none]) (fun j : Nat => .int ((cell + 7 * (j : Int)) % 1000000001)) (Nat.le_trans hs.2 (by decide)) (fun j hj => by
      have q1 : oMul ⟨0, false, .int 7⟩ ⟨0, false, .int (j : Int)⟩ = some (pureV (.int (7 * (j : Int)))) := oMul_l (by decide)
      refine ⟨_, [some (0, .tup [.int k.num, .int k.first, .int k.size, .bl true, .tup (k.beh.map .int), k.late, .lst (k.cells.map cellD)]), some (0, .int cell), none, some (0, .int j)], rfl, ?_, by simp [wipeV]⟩
      simp [p9, q1])
    have em : ((List.range k.size).map fun j : Nat => D.int ((cell + 7 * (j : Int)) % 1000000001)) = (marksI cell k.size).map .int := by
      unfold marksI; rw [List.map_map]; rfl
    rw [em] at lc
    rw [lm] at kr
    simp [enter, Kn.d, hw, it0, it1, it2, it3, it4, it5, p12, run_lc, eq_true hb, wipeV, lc, kr, askOf]
end Pd
end
section
namespace Pd
open PySem L2
theorem askOf_form (k : Kn) (cell : Int) : ∃ kind marks early, askOf k cell = askD kind k.first k.size marks (cell % 1000000000000) (cell % 21) k.late (.tup (k.beh.map .int)) early := by
  unfold askOf
  split
  · exact ⟨_, _, _, rfl⟩
  · exact ⟨_, _, _, rfl⟩
def dueD (num : Int) (ask : D) (cells : List D) : D := .ins .n_Due [.n_number, .n_ask, .n_cells] [.int num, ask, .lst cells]
section
variable {p : Pl} {k : Kn} {m : Nat} {b : Bool}
theorem numbered_k (hp : PlOk p) (h : KnOk p k) (cell num : Int) : F_numbered_stretch [pureV p.d, pureV (askOf k cell), pureV (.int num)] = .ok ⟨1, false, .lst (k.cells.map cellD)⟩ [none, none, none] := by
  obtain ⟨kind, marks, early, e⟩ := askOf_form k cell
  have hs := h.s1
  have hf := h.f2
  have q := stretch_k hp (kind := kind) (marks := marks) (at_ := cell % 1000000000000) (asker := cell % 21) (latest := k.late) (behind := .tup (k.beh.map .int)) (early := early) h.f0 h.f1 (by omega) (by omega)
  unfold F_numbered_stretch runFn c_numbered_stretch
  simp [enter, e, q, h.ce]
theorem due_init_k (hp : PlOk p) (h : KnOk p k) (cell num : Int) : F_DueUU_initUU [⟨1, false, .ins .n_Due [] []⟩, pureV p.d, pureV (.int num), pureV (askOf k cell)] = .ok (pureV .non) [some (1, dueD num (askOf k cell) (k.cells.map cellD)), none, none, none] := by
  have q := numbered_k hp h cell num
  unfold F_DueUU_initUU runFn c_DueUU_initUU
  simp [enter, q, putNs, putDs, dueD]
theorem fd_number {num : Int} {ask : D} {cells : List D} : oFld ft .n_number ⟨m, b, dueD num ask cells⟩ = some (pureV (.int num)) := by
  simp [dueD, oFld, lookN]
theorem fd_cells {num : Int} {ask : D} {cells : List D} : oFld ft .n_cells ⟨0, b, dueD num ask cells⟩ = some (pureV (.lst cells)) := by
  simp [dueD, oFld, lookN]
theorem imm_due {num : Int} {ask : D} {cells : List D} : immut (dueD num ask cells) = false := rfl
/-! the bound -/
theorem whole_k (i : Int) : F__law_whole [pureV (.int i)] = .ok (pureV (.bl true)) [none] := by
  have q1 : oIsi "int" ⟨0, false, .int i⟩ = some (pureV (.bl true)) := rfl
  have q2 : oIsi "bool" ⟨0, false, .int i⟩ = some (pureV (.bl false)) := rfl
  unfold F__law_whole runFn c__law_whole
  simp [enter, q1, q2]
end
end Pd
end
section
namespace Pd
open PySem L2
theorem cutD_from1 (ds : List D) (k : Nat) : cutD ds (some ((k : Int) + 1)) none = ds.drop (k + 1) := cutD_from ds (k + 1)
theorem pydL_ints : ∀ ns : List Int, pydL (ns.map .int) = some (ns.map PyData.int)
  | [] => rfl
  | n :: ns => by
    rw [List.map_cons, List.map_cons]
    unfold pydL
    rw [pydL_ints ns]
    rfl
theorem eqv_ints : ∀ ns : List Int, PyData.eqvAll (ns.map PyData.int) (ns.map PyData.int) = true
  | [] => by simp [PyData.eqvAll]
  | n :: ns => by simp [PyData.eqvAll, PyData.eqv, eqv_ints ns]
theorem lay_ints : ∀ ns : List Int, PyData.canLayAll0 (ns.map PyData.int) = true
  | [] => by simp [PyData.canLayAll0]
  | n :: ns => by simp [PyData.canLayAll0, PyData.canLay0, lay_ints ns]
theorem depth_ints : ∀ ns : List Int, PyData.depthAll (ns.map PyData.int) ≤ 1
  | [] => by simp [PyData.depthAll]
  | n :: ns => by
    have := depth_ints ns
    simp [PyData.depthAll, PyData.depth]
    omega
theorem shaped_ints (ns : List Int) : SeqAt.shaped (.list (ns.map PyData.int)) = true := by
  unfold SeqAt.shaped
  rw [Bool.and_eq_true]
  refine ⟨by simp [PyData.canLay0, lay_ints], ?_⟩
  have := depth_ints ns
  simp [PyData.depth]
  omega
theorem oEq_ints {q q' : Nat} {b b' neg : Bool} (ns : List Int) : oEqD neg ⟨q, b, .lst (ns.map .int)⟩ ⟨q', b', .lst (ns.map .int)⟩ = some (pureV (.bl (true != neg))) := by
  have hp : pyd (.lst (ns.map .int)) = some (.list (ns.map PyData.int)) := by
    unfold pyd; rw [pydL_ints]; rfl
  unfold oEqD
  simp only [hp, Option.bind_some, shaped_ints, and_self, if_true]
  congr 3
  show (PyData.eqv _ _ != neg) = _
  simp [PyData.eqv, eqv_ints]
def dueOf (f : Kn → Int) (k : Kn) : D := dueD k.num (askOf k (f k)) (k.cells.map cellD)
theorem lcNum {α : Type} {vs : List Nat} {iv : Nat} {fe : EF} {ρ : Vr} (el : α → D) (num : α → Int) : ∀ (ks : List α) (acc : List Int), acc.length + ks.length ≤ BIG →
    (∀ k ∈ ks, ∃ ρ1 ρ3, bindT (.nm iv) (el k) ρ = some ρ1 ∧ fe ρ1 = .ok (pureV (.int (num k))) ρ3 ∧ wipeV ρ3 vs = ρ) →
    compL vs (.nm iv) (eC (.bl true)) fe (ks.map el) (acc.map .int) ρ = .ok ⟨1, false, .lst ((acc ++ ks.map num).map .int)⟩ ρ
  | [], acc, _, _ => by simp [compL]
  | k :: ks, acc, hl, he => by
    obtain ⟨ρ1, ρ3, e1, e2, e3⟩ := he k List.mem_cons_self
    rw [List.length_cons] at hl
    have ih := lcNum (vs := vs) (iv := iv) (fe := fe) (ρ := ρ) el num ks (acc ++ [num k]) (by rw [List.length_append, List.length_singleton]; omega) fun x hx => he x (List.mem_cons_of_mem _ hx)
    rw [List.map_cons]
    unfold compL
    have hb : acc.length < BIG := by omega
    rw [e1]
    simp [e2, e3, hb]
    simpa using ih
section
variable {p : Pl}
end
end Pd
end
section
namespace Pd
open PySem L2
/-! swings -/
def g (xs : List Int) (i : Nat) : Int := xs.getD i 0
structure Conc (xs : List Int) (lo : Int) : Prop where
  d : ∀ i j, i ≤ j → j + 1 < xs.length → g xs (j + 1) - g xs j ≤ g xs (i + 1) - g xs i
  l : ∀ i, i + 1 < xs.length → lo ≤ g xs (i + 1) - g xs i
theorem g_app_l {xs : List Int} {y : Int} {i : Nat} (h : i < xs.length) : g (xs ++ [y]) i = g xs i := by
  unfold g; simp [List.getD_eq_getElem?_getD, List.getElem?_append_left h]
theorem g_app_e {xs : List Int} {y : Int} : g (xs ++ [y]) xs.length = y := by
  unfold g; simp [List.getD_eq_getElem?_getD]
theorem Conc.snoc {xs : List Int} {lo lo' : Int} {n : Nat} (hn : xs.length = n + 1) (h : Conc xs lo) (hl : lo' ≤ lo) : Conc (xs ++ [g xs n + lo]) lo' := by
  refine ⟨fun i j hij hj => ?_, fun i hi => ?_⟩
  · rw [List.length_append, List.length_singleton] at hj
    by_cases hj2 : j + 1 < xs.length
    · rw [g_app_l hj2, g_app_l (by omega), g_app_l (by omega), g_app_l (by omega)]
      exact h.d i j hij hj2
    · have ej : j = n := by omega
      subst ej
      rw [show j + 1 = xs.length by omega, g_app_e, g_app_l (by omega)]
      by_cases hi : i = j
      · subst hi
        rw [show i + 1 = xs.length by omega, g_app_e, g_app_l (by omega)]
        omega
      · rw [g_app_l (by omega), g_app_l (by omega)]
        have := h.l i (by omega)
        omega
  · rw [List.length_append, List.length_singleton] at hi
    by_cases hi2 : i + 1 < xs.length
    · rw [g_app_l hi2, g_app_l (by omega)]
      have := h.l i hi2
      omega
    · have ei : i = n := by omega
      subst ei
      rw [show i + 1 = xs.length by omega, g_app_e, g_app_l (by omega)]
      omega
theorem Conc.sub {xs : List Int} {lo : Int} (h : Conc xs lo) (h0 : g xs 0 = 0) : ∀ a b, a + b < xs.length → g xs (a + b) ≤ g xs a + g xs b
  | 0, b, _ => by rw [Nat.zero_add, h0]; omega
  | a + 1, b, hl => by
    have ih := h.sub h0 a b (by omega)
    have hd := h.d a (a + b) (by omega) (by omega)
    rw [show a + 1 + b = a + b + 1 by omega]
    omega
structure SwOk (n : Nat) (sw : List Int) : Prop where
  len : sw.length = n
  z : g sw 0 = 0
  b : ∀ i, 1 ≤ i → i < n → 1 ≤ g sw i ∧ g sw i ≤ 1000000000
  up : ∀ i, 1 ≤ i → i < n → g sw (i - 1) ≤ g sw i
  sub : ∀ a b, 1 ≤ a → 1 ≤ b → a + b < n → g sw (a + b) ≤ g sw a + g sw b
theorem Conc.up {xs : List Int} {lo : Int} (h : Conc xs lo) (hlo : 0 ≤ lo) : ∀ i, i + 1 < xs.length → g xs i ≤ g xs (i + 1) := fun i hi => by
  have := h.l i hi; omega
theorem Conc.bound {xs : List Int} {lo first : Int} (h : Conc xs lo) (hlo : 0 ≤ lo) (h0 : g xs 0 = 0) (hf : 2 ≤ xs.length → g xs 1 ≤ first) (hf1 : 2 ≤ xs.length → 1 ≤ g xs 1) : ∀ i, 1 ≤ i → i < xs.length → 1 ≤ g xs i ∧ g xs i ≤ i * first
  | 0, h1, _ => by omega
  | 1, _, h2 => ⟨hf1 (by omega), by have := hf (by omega); omega⟩
  | i + 2, _, h2 => by
    have ih := h.bound hlo h0 hf hf1 (i + 1) (by omega) (by omega)
    have hd : g xs (i + 2) - g xs (i + 1) ≤ g xs 1 - g xs 0 := h.d 0 (i + 1) (by omega) h2
    have hu : lo ≤ g xs (i + 2) - g xs (i + 1) := h.l (i + 1) h2
    have hf' := hf (by omega)
    rw [h0] at hd
    refine ⟨by omega, ?_⟩
    have e : ((i + 2 : Nat) : Int) * first = ((i + 1 : Nat) : Int) * first + first := by
      rw [show ((i + 2 : Nat) : Int) = ((i + 1 : Nat) : Int) + 1 by omega, Int.add_mul, Int.one_mul]
    rw [e]
    omega
theorem Conc.sw {xs : List Int} {lo first : Int} (h : Conc xs lo) (hlo : 0 ≤ lo) (h0 : g xs 0 = 0) (hf : 2 ≤ xs.length → g xs 1 ≤ first) (hf1 : 2 ≤ xs.length → 1 ≤ g xs 1) (hb : ∀ i : Nat, i < xs.length → (i : Int) * first ≤ 1000000000) : SwOk xs.length xs :=
  ⟨rfl, h0, fun i h1 h2 => by
    have := h.bound hlo h0 hf hf1 i h1 h2
    have := hb i h2
    omega, fun i h1 h2 => by
    have := h.up hlo (i - 1) (by omega)
    rwa [show i - 1 + 1 = i by omega] at this, fun a b _ _ hl => h.sub h0 a b hl⟩
theorem twice_sw {ys : List Int} {least : Int} (h1 : 1 ≤ least ∧ least ≤ 500000000) (hy : ∀ y ∈ ys, least ≤ y ∧ y ≤ 2 * least) (hs : ys.Pairwise (· ≤ ·)) : SwOk (ys.length + 1) (0 :: ys) := by
  have gy : ∀ i, i < ys.length → least ≤ g (0 :: ys) (i + 1) ∧ g (0 :: ys) (i + 1) ≤ 2 * least := fun i hi => by
    have : g (0 :: ys) (i + 1) = ys[i] := by unfold g; simp [List.getD_eq_getElem?_getD, List.getElem?_eq_getElem hi]
    rw [this]
    exact hy _ (List.getElem_mem hi)
  refine ⟨rfl, rfl, fun i h2 h3 => ?_, fun i h2 h3 => ?_, fun a b ha hb hl => ?_⟩
  · obtain ⟨j, rfl⟩ : ∃ j, i = j + 1 := ⟨i - 1, by omega⟩
    have := gy j (by omega)
    omega
  · obtain ⟨j, rfl⟩ : ∃ j, i = j + 1 := ⟨i - 1, by omega⟩
    cases j with
    | zero =>
      have := gy 0 (by omega)
      show g (0 :: ys) 0 ≤ _
      have e : g (0 :: ys) 0 = 0 := rfl
      omega
    | succ j =>
      have hj : j + 1 < ys.length := by omega
      have e1 : g (0 :: ys) (j + 1) = ys[j] := by unfold g; simp [List.getD_eq_getElem?_getD, List.getElem?_eq_getElem (show j < ys.length by omega)]
      have e2 : g (0 :: ys) (j + 1 + 1) = ys[j + 1] := by unfold g; simp [List.getD_eq_getElem?_getD, List.getElem?_eq_getElem hj]
      show g (0 :: ys) (j + 1) ≤ _
      rw [e1, e2]
      exact (List.pairwise_iff_getElem.mp hs) j (j + 1) (by omega) hj (by omega)
  · obtain ⟨a', rfl⟩ : ∃ j, a = j + 1 := ⟨a - 1, by omega⟩
    obtain ⟨b', rfl⟩ : ∃ j, b = j + 1 := ⟨b - 1, by omega⟩
    have q1 := gy a' (by omega)
    have q2 := gy b' (by omega)
    have q3 := gy (a' + b' + 1) (by omega)
    rw [show a' + 1 + (b' + 1) = a' + b' + 1 + 1 by omega]
    omega
end Pd
end
section
namespace Pd
open PySem L2
theorem g_get {xs : List Int} {i : Nat} (h : i < xs.length) : xs[i]? = some (g xs i) := by
  unfold g; simp [List.getD_eq_getElem?_getD, List.getElem?_eq_getElem h]
theorem atI_last {xs : List Int} {n : Nat} (h : xs.length = n + 1) : atI (xs.map D.int) (-1) = some (.int (g xs n)) := by
  rw [atI_map]
  have : atI xs (-1) = some (g xs n) := by
    unfold atI ixN
    have e1 : ¬ (0 ≤ (-1 : Int)) := by decide
    have e2 : -(xs.length : Int) ≤ -1 := by omega
    simp only [if_neg e1, if_pos e2, Option.bind_some]
    rw [show ((-1 : Int) + (xs.length : Int)).toNat = n by omega]
    exact g_get (by omega)
  rw [this]; rfl
theorem atI_g {xs : List Int} {i : Int} {k : Nat} (e : i = (k : Int)) (h : k < xs.length) : atI (xs.map D.int) i = some (.int (g xs k)) := by
  subst e
  rw [atI_map, atI_nat, g_get h]; rfl
theorem swL (X : List Int) (hX : X.length = 24) (dn : D) : ∀ (m j : Nat) (acc : List Int) (step : Int) (x4 : Slot), acc.length = j → 1 ≤ j → Conc acc step → 0 ≤ step → j + m ≤ 200 →
    ∃ acc' step' y4, forL (.nm 4) (sSeq (sApp true (lVar 3) (e2 true oAdd (e2 true oIdx (eVar 3) (e1 oNeg (eC (.int 1)))) (eVar 2))) (sAs 2 (e2 true oSub (eVar 2) (e2 true oMod (e2 true oIdx (eVar 0) (e2 true oAdd (eC (.int 12)) (e2 true oMod (eVar 4) (eC (.int 10))))) (e2 true oAdd (eVar 2) (eC (.int 1)))))))
      ((List.range' j m).map fun i : Nat => D.int (i : Int)) [some (0, .lst (X.map .int)), some (0, dn), some (0, .int step), some (1, .lst (acc.map .int)), x4, none] =
    .nx [some (0, .lst (X.map .int)), some (0, dn), some (0, .int step'), some (1, .lst (acc'.map .int)), y4, none] ∧ acc'.length = j + m ∧ Conc acc' step' ∧ 0 ≤ step' ∧ g acc' 0 = g acc 0 ∧ (2 ≤ acc'.length → g acc' 1 = if 2 ≤ acc.length then g acc 1 else g acc 0 + step)
  | 0, j, acc, step, x4, h1, h2, h3, h4, _ => ⟨acc, step, x4, rfl, by omega, h3, h4, rfl, fun h => by rw [if_pos (by omega)]⟩
  | m + 1, j, acc, step, x4, h1, h2, h3, h4, h5 => by
    obtain ⟨n, rfl⟩ : ∃ n, j = n + 1 := ⟨j - 1, by omega⟩
    let ix : Nat := 12 + (n + 1) % 10
    let step2 : Int := step - g X ix % (step + 1)
    have m1 : 0 ≤ g X ix % (step + 1) := Int.emod_nonneg _ (by omega)
    have m2 : g X ix % (step + 1) < step + 1 := Int.emod_lt_of_pos _ (by omega)
    have hc := h3.snoc h1 (lo' := step2) (show step - g X ix % (step + 1) ≤ step by omega)
    obtain ⟨acc', step', y4, e, q1, q2, q3, q4, q5⟩ := swL X hX dn m (n + 1 + 1) (acc ++ [g acc n + step]) step2 (some (0, .int ((n + 1 : Nat) : Int))) (by simp [h1]) (by omega) hc (show 0 ≤ step - g X ix % (step + 1) by omega) (by omega)
    refine ⟨acc', step', y4, ?_, by omega, q2, q3, ?_, ?_⟩
    · rw [List.range'_succ, List.map_cons]
      unfold forL
      have hb : acc.length < BIG := Nat.lt_of_lt_of_le (show acc.length < 1000 by omega) (by decide)
      have a1 := atI_last h1
      have a2 : atI (X.map D.int) (12 + ((n + 1 : Nat) : Int) % 10) = some (.int (g X ix)) := atI_g (k := ix) (show (12 + ((n + 1 : Nat) : Int) % 10) = ((12 + (n + 1) % 10 : Nat) : Int) by omega) (by rw [hX]; show 12 + (n + 1) % 10 < 24; omega)
      have a3 : oMod ⟨0, false, .int (g X ix)⟩ ⟨0, false, .int (step + 1)⟩ = some (pureV (.int (g X ix % (step + 1)))) := oMod_i (by omega)
      simp only [Int.natCast_add, Int.natCast_one] at a2 e ⊢
      simp [a1, a2, a3, hb]
      simpa [step2] using e
    · rw [q4, g_app_l (by omega)]
    · intro h
      rw [q5 h, if_pos (by rw [List.length_append, List.length_singleton, h1]; omega)]
      by_cases hn : 2 ≤ acc.length
      · rw [if_pos hn, g_app_l (by omega)]
      · rw [if_neg hn]
        have e0 : n = 0 := by omega
        subst e0
        have e1 : acc.length = 1 := h1
        have := g_app_e (xs := acc) (y := g acc 0 + step)
        rw [e1] at this
        exact this
end Pd
end
section
namespace Pd
open PySem L2
theorem conc0 (lo : Int) : Conc [0] lo := ⟨fun i j _ h => by simp at h, fun i h => by simp at h⟩
theorem law_swing1 (X : List Int) (hX : X.length = 24) (hp : ∀ x ∈ X, 0 ≤ x) {n : Nat} (hn : 2 ≤ n ∧ n ≤ 50) (h0 : g X 10 % 2 = 0) : ∃ sw, SwOk n sw ∧ F__law_swing [pureV (.lst (X.map .int)), pureV (.int n)] = .ok ⟨1, false, .lst (sw.map .int)⟩ [none, none] := by
  have key : ∀ s0 : Int, 1 ≤ s0 → s0 ≤ 10000000 → ∃ sw step' y4, SwOk n sw ∧ forL (.nm 4) (sSeq (sApp true (lVar 3) (e2 true oAdd (e2 true oIdx (eVar 3) (e1 oNeg (eC (.int 1)))) (eVar 2))) (sAs 2 (e2 true oSub (eVar 2) (e2 true oMod (e2 true oIdx (eVar 0) (e2 true oAdd (eC (.int 12)) (e2 true oMod (eVar 4) (eC (.int 10))))) (e2 true oAdd (eVar 2) (eC (.int 1)))))))
      ((List.range' 1 (n - 1)).map fun i : Nat => D.int (i : Int)) [some (0, .lst (X.map .int)), some (0, .int n), some (0, .int s0), some (1, .lst [.int 0]), none, none] = .nx [some (0, .lst (X.map .int)), some (0, .int n), some (0, .int step'), some (1, .lst (sw.map .int)), y4, none] := fun s0 h1 h2 => by
    obtain ⟨acc', step', y4, e, q1, q2, q3, q4, q5⟩ := swL X hX (.int n) (n - 1) 1 [0] s0 none rfl (Nat.le_refl 1) (conc0 s0) (by omega) (by omega)
    have hl : acc'.length = n := by omega
    have z : g acc' 0 = 0 := q4
    have f1 : 2 ≤ acc'.length → g acc' 1 = s0 := fun h => by
      rw [q5 h, if_neg (by simp)]
      show (0 : Int) + s0 = s0
      omega
    have sw := q2.sw q3 z (first := s0) (fun h => by rw [f1 h]; exact Int.le_refl _) (fun h => by rw [f1 h]; exact h1) (fun i hi => by
      have : (i : Int) ≤ 50 := by omega
      have := Int.mul_le_mul this h2 (by omega) (by decide)
      omega)
    rw [hl] at sw
    exact ⟨acc', step', y4, sw, e⟩
  have a10 : atI (X.map D.int) 10 = some (.int (g X 10)) := atI_g (k := 10) rfl (by omega)
  have a11 : atI (X.map D.int) 11 = some (.int (g X 11)) := atI_g (k := 11) rfl (by omega)
  have p7 : oPow ⟨0, false, .int 10⟩ ⟨0, false, .int 7⟩ = some (pureV (.int 10000000)) := by rw [oPow_i (by decide)]; rfl
  have er : rng 1 ((n : Int) - 1).toNat = (List.range' 1 (n - 1)).map fun i : Nat => D.int (i : Int) := by
    rw [show ((n : Int) - 1).toNat = n - 1 by omega]; exact rng_nat 1 (n - 1)
  have er' : rng 1 (n - 1) = (List.range' 1 (n - 1)).map fun i : Nat => D.int (i : Int) := rng_nat 1 (n - 1)
  have b1 : RB 1 := by unfold RB; decide
  have b2 : RB (n : Int) := by unfold RB; omega
  by_cases h9 : g X 11 / 1000 % 9 = 0
  · obtain ⟨sw, step', y4, ok, e⟩ := key (1 + g X 11 % 10000000) (by omega) (by omega)
    refine ⟨sw, ok, ?_⟩
    unfold F__law_swing runFn c__law_swing
    simp [enter, a10, a11, h0, h9, p7, eq_true b1, eq_true b2, er, er', e]
  · obtain ⟨sw, step', y4, ok, e⟩ := key (1 + g X 11 % 1000) (by omega) (by omega)
    refine ⟨sw, ok, ?_⟩
    have hc : (g X 11 / 1000 % 9 == 0) = false := beq_eq_false_iff_ne.mpr h9
    unfold F__law_swing runFn c__law_swing
    simp [enter, a10, a11, h0, hc, p7, eq_true b1, eq_true b2, er, er', e]
end Pd
end
section
namespace Pd
open PySem L2
theorem law_swing2 (X : List Int) (hX : X.length = 24) {n : Nat} (hn : 2 ≤ n ∧ n ≤ 50) (h0 : ¬ g X 10 % 2 = 0) : ∃ sw, SwOk n sw ∧ F__law_swing [pureV (.lst (X.map .int)), pureV (.int n)] = .ok ⟨1, false, .lst (sw.map .int)⟩ [none, none] := by
  have hc : (g X 10 % 2 == 0) = false := beq_eq_false_iff_ne.mpr h0
  let least : Int := 1 + g X 11 % 100000000
  have hl : 1 ≤ least ∧ least ≤ 100000000 := by show 1 ≤ 1 + g X 11 % 100000000 ∧ 1 + g X 11 % 100000000 ≤ 100000000; omega
  let num : Nat → Int := fun i => least + g X (12 + i % 10) % (least + 1)
  let ys : List Int := sortI ((List.range' 1 (n - 1)).map num)
  have hy : ∀ y ∈ ys, least ≤ y ∧ y ≤ 2 * least := fun y hy => by
    have := (sortI_perm _).mem_iff.mp hy
    obtain ⟨i, _, rfl⟩ := List.mem_map.mp this
    have m1 : 0 ≤ g X (12 + i % 10) % (least + 1) := Int.emod_nonneg _ (by omega)
    have m2 : g X (12 + i % 10) % (least + 1) < least + 1 := Int.emod_lt_of_pos _ (by omega)
    show least ≤ least + _ ∧ least + _ ≤ 2 * least
    omega
  have ly : ys.length = n - 1 := by
    show (sortI _).length = _
    rw [(sortI_perm _).length_eq, List.length_map, List.length_range']
  have sw := twice_sw (ys := ys) (least := least) (by omega) hy (sortI_sorted _)
  rw [ly, show n - 1 + 1 = n by omega] at sw
  refine ⟨0 :: ys, sw, ?_⟩
  have a10 : atI (X.map D.int) 10 = some (.int (g X 10)) := atI_g (k := 10) rfl (by omega)
  have a11 : atI (X.map D.int) 11 = some (.int (g X 11)) := atI_g (k := 11) rfl (by omega)
  have p8 : oPow ⟨0, false, .int 10⟩ ⟨0, false, .int 8⟩ = some (pureV (.int 100000000)) := by rw [oPow_i (by decide)]; rfl
  have er' : rng 1 (n - 1) = (List.range' 1 (n - 1)).map fun i : Nat => D.int (i : Int) := rng_nat 1 (n - 1)
  have b1 : RB 1 := by unfold RB; decide
  have b2 : RB (n : Int) := by unfold RB; omega
  have lc := lcNum (vs := [4]) (iv := 4) (fe := e2 true oAdd (eVar 5) (e2 true oMod (e2 true oIdx (eVar 0) (e2 true oAdd (eC (.int 12)) (e2 true oMod (eVar 4) (eC (.int 10))))) (e2 true oAdd (eVar 5) (eC (.int 1))))) (ρ := [some (0, .lst (X.map .int)), some (0, .int n), none, none, none, some (0, .int least)]) (fun i : Nat => .int (i : Int)) num (List.range' 1 (n - 1)) [] (by rw [List.length_range']; exact Nat.le_trans (show _ ≤ 100 by simp; omega) (by decide)) (fun i _ => by
    refine ⟨[some (0, .lst (X.map .int)), some (0, .int n), none, none, some (0, .int i), some (0, .int least)], [some (0, .lst (X.map .int)), some (0, .int n), none, none, some (0, .int i), some (0, .int least)], rfl, ?_, by simp [wipeV]⟩
    have a2 : atI (X.map D.int) (12 + (i : Int) % 10) = some (.int (g X (12 + i % 10))) := atI_g (k := 12 + i % 10) (by omega) (by omega)
    have a3 : oMod ⟨0, false, .int (g X (12 + i % 10))⟩ ⟨0, false, .int (least + 1)⟩ = some (pureV (.int (g X (12 + i % 10) % (least + 1)))) := oMod_i (by omega)
    simp [a2, a3, num])
  simp only [List.map_nil, List.nil_append] at lc
  have q2 : oSorted ⟨1, false, .lst (((List.range' 1 (n - 1)).map num).map .int)⟩ = some ⟨1, false, .lst (ys.map .int)⟩ := by
    unfold oSorted lsOf
    simp only [Option.bind_some, ints_map, Option.map_some]
    rfl
  have q3 : oAdd ⟨1, false, .lst [.int 0]⟩ ⟨1, false, .lst (ys.map .int)⟩ = some ⟨1, false, .lst (.int 0 :: ys.map .int)⟩ := by
    simp only [oAdd]
    rw [if_pos ⟨Nat.le_refl 1, Nat.le_refl 1, by simp only [List.length_cons, List.length_nil, List.length_map, ly]; exact Nat.le_trans (show _ ≤ 100 by omega) (by decide)⟩]
    rfl
  unfold F__law_swing runFn c__law_swing
  have el : (1 + g X 11 % 100000000 : Int) = least := rfl
  simp [-List.map_map, enter, a10, a11, hc, p8, el, run_lc, eq_true b1, eq_true b2, er', wipeV, lc, q2, q3]
end Pd
end
section
namespace Pd
open PySem L2
def zoneD (z : Int × Int) : D := .tup [.int z.1, .int z.2]
def ZoneOk (z : Int × Int) : Prop := 1 ≤ z.1 ∧ z.1 ≤ 3 ∧ 1 ≤ z.2 ∧ z.2 ≤ 8
theorem zonesL (X : List Int) (hX : X.length = 24) (d0 d1 : D) : ∀ (m j : Nat) (zs : List (Int × Int)) (x4 : Slot), zs.length = j + 1 → j + m ≤ 2 → (∀ z ∈ zs, ZoneOk z) →
    ∃ (zs' : List (Int × Int)) (y4 : Slot), forL (.nm 4) (sApp true (lVar 3) (eTup [.ev (e2 true oAdd (eC (.int 1)) (e2 true oMod (e2 true oIdx (eVar 2) (e2 true oAdd (eC (.int 3)) (e2 true oMul (eC (.int 2)) (eVar 4)))) (eC (.int 3)))), .ev (e2 true oAdd (eC (.int 1)) (e2 true oMod (e2 true oIdx (eVar 2) (e2 true oAdd (eC (.int 4)) (e2 true oMul (eC (.int 2)) (eVar 4)))) (eC (.int 8))))]))
      ((List.range' j m).map fun i : Nat => D.int (i : Int)) [some (0, d0), some (0, d1), some (1, .lst (X.map .int)), some (1, .lst (zs.map zoneD)), x4, none, none, none, none, none] =
    .nx [some (0, d0), some (0, d1), some (1, .lst (X.map .int)), some (1, .lst (zs'.map zoneD)), y4, none, none, none, none, none] ∧ zs'.length = j + m + 1 ∧ (∀ z ∈ zs', ZoneOk z) ∧ zs'.head? = zs.head?
  | 0, j, zs, x4, h1, h2, h3 => ⟨zs, x4, rfl, by omega, h3, rfl⟩
  | m + 1, j, zs, x4, h1, h2, h3 => by
    let z : Int × Int := (1 + g X (3 + 2 * j) % 3, 1 + g X (4 + 2 * j) % 8)
    obtain ⟨zs', y4, e, q1, q2, q3⟩ := zonesL X hX d0 d1 m (j + 1) (zs ++ [z]) (some (0, .int (j : Int))) (by simp [h1]) (by omega) (fun y hy => by
      rcases List.mem_append.mp hy with hy | hy
      · exact h3 y hy
      · rw [List.mem_singleton.mp hy]
        show 1 ≤ 1 + g X (3 + 2 * j) % 3 ∧ 1 + g X (3 + 2 * j) % 3 ≤ 3 ∧ 1 ≤ 1 + g X (4 + 2 * j) % 8 ∧ 1 + g X (4 + 2 * j) % 8 ≤ 8
        omega)
    refine ⟨zs', y4, ?_, by omega, q2, ?_⟩
    · rw [List.range'_succ, List.map_cons]
      unfold forL
      have hb : zs.length < BIG := Nat.lt_of_lt_of_le (show zs.length < 1000 by omega) (by decide)
      have m2 : oMul ⟨0, false, .int 2⟩ ⟨0, false, .int (j : Int)⟩ = some (pureV (.int (2 * (j : Int)))) := oMul_l (by decide)
      have a1 : atI (X.map D.int) (3 + 2 * (j : Int)) = some (.int (g X (3 + 2 * j))) := atI_g (k := 3 + 2 * j) (by omega) (by omega)
      have a2 : atI (X.map D.int) (4 + 2 * (j : Int)) = some (.int (g X (4 + 2 * j))) := atI_g (k := 4 + 2 * j) (by omega) (by omega)
      simp [m2, a1, a2, hb]
      simpa [z, zoneD] using e
    · rw [q3]
      cases zs with
      | nil => simp at h1
      | cons a l => rfl
end Pd
end
section
namespace Pd
open PySem L2
def countsOf : List (Int × Int) → List Int
  | [] => []
  | z :: zs => List.replicate z.1.toNat z.2 ++ countsOf zs
def wholeOf : Int → List (Int × Int) → Int
  | w, [] => w
  | w, z :: zs => wholeOf (w * z.2) zs
theorem countsL (d0 d1 d2 d3 : D) (q2 : Nat) (x4 : Slot) : ∀ (zs : List (Int × Int)) (w : Int) (cs : List Int) (x7 x8 : Slot), (∀ z ∈ zs, ZoneOk z) → cs.length + 3 * zs.length ≤ 1000 →
    ∃ (y7 y8 : Slot), forL (.tp [7, 8]) (sSeq (sAs 5 (e2 true oMul (eVar 5) (eVar 8))) (sAs 6 (e2 true oAdd (eVar 6) (e2 true oMul (eLst [.ev (eUse 8)]) (eVar 7))))) (zs.map zoneD) [some (0, d0), some (0, d1), some (q2, d2), some (0, d3), x4, some (0, .int w), some (1, .lst (cs.map .int)), x7, x8, none] =
    .nx [some (0, d0), some (0, d1), some (q2, d2), some (0, d3), x4, some (0, .int (wholeOf w zs)), some (1, .lst ((cs ++ countsOf zs).map .int)), y7, y8, none]
  | [], w, cs, x7, x8, _, _ => ⟨x7, x8, by simp [forL, wholeOf, countsOf]⟩
  | (m, c) :: zs, w, cs, x7, x8, hz, hl => by
    obtain ⟨z1, z2, z3, z4⟩ := hz (m, c) List.mem_cons_self
    rw [List.length_cons] at hl
    have hm : m.toNat ≤ 3 := by omega
    obtain ⟨y7, y8, e⟩ := countsL d0 d1 d2 d3 q2 x4 zs (w * c) (cs ++ List.replicate m.toNat c) (some (0, .int m)) (some (0, .int c)) (fun z h => hz z (List.mem_cons_of_mem _ h)) (by rw [List.length_append, List.length_replicate]; omega)
    refine ⟨y7, y8, ?_⟩
    rw [List.map_cons]
    unfold forL
    have q1 : oMul ⟨0, false, .int w⟩ ⟨0, false, .int c⟩ = some (pureV (.int (w * c))) := oMul_r (by omega)
    have q3 : oMul ⟨1, false, .lst [.int c]⟩ ⟨0, false, .int m⟩ = some ⟨1, false, .lst ((List.replicate m.toNat c).map .int)⟩ := by
      simp only [oMul]
      rw [if_pos ⟨Nat.le_refl 1, by omega, by omega, by simp⟩]
      simp
    have q4 : oAdd ⟨1, true, .lst (cs.map .int)⟩ ⟨1, false, .lst ((List.replicate m.toNat c).map .int)⟩ = some ⟨1, false, .lst ((cs ++ List.replicate m.toNat c).map .int)⟩ := by
      simp only [oAdd]
      rw [if_pos ⟨Nat.le_refl 1, Nat.le_refl 1, by simp only [List.length_map, List.length_replicate]; exact Nat.le_trans (show _ ≤ 1000 by omega) (by decide)⟩, List.map_append]
    simp [-List.map_append, -List.map_replicate, zoneD, q1, q3, q4]
    simpa [wholeOf, countsOf] using e
end Pd
end
section
namespace Pd
open PySem L2
theorem wholeOf_mul : ∀ (zs : List (Int × Int)) (a b : Int), wholeOf (a * b) zs = a * wholeOf b zs
  | [], _, _ => rfl
  | z :: zs, a, b => by
    unfold wholeOf
    rw [Int.mul_assoc, wholeOf_mul zs]
theorem whole_dvd : ∀ (zs : List (Int × Int)) (w : Int), (∀ c ∈ countsOf zs, c ∣ wholeOf w zs) ∧ w ∣ wholeOf w zs
  | [], w => ⟨fun c h => by simp [countsOf] at h, Int.dvd_refl _⟩
  | z :: zs, w => by
    obtain ⟨h1, h2⟩ := whole_dvd zs (w * z.2)
    refine ⟨fun c hc => ?_, ?_⟩
    · unfold countsOf at hc
      unfold wholeOf
      rcases List.mem_append.mp hc with q | q
      · have := List.eq_of_mem_replicate q
        rw [this]
        exact Int.dvd_trans (Int.dvd_mul_left _ _) h2
      · exact h1 c q
    · unfold wholeOf
      exact Int.dvd_trans (Int.dvd_mul_right _ _) h2
theorem whole_b : ∀ (zs : List (Int × Int)) (w : Int), (∀ z ∈ zs, ZoneOk z) → 1 ≤ w → 1 ≤ wholeOf w zs ∧ wholeOf w zs ≤ w * 8 ^ zs.length
  | [], w, _, h => ⟨h, by simp [wholeOf]⟩
  | z :: zs, w, hz, h => by
    obtain ⟨z1, z2, z3, z4⟩ := hz z List.mem_cons_self
    have p1 : 1 ≤ w * z.2 := by
      have := Int.mul_le_mul h z3 (by omega) (by omega)
      omega
    obtain ⟨h1, h2⟩ := whole_b zs (w * z.2) (fun y hy => hz y (List.mem_cons_of_mem _ hy)) p1
    refine ⟨h1, Int.le_trans h2 ?_⟩
    rw [List.length_cons, Int.pow_succ, Int.mul_comm (8 ^ zs.length) 8, ← Int.mul_assoc]
    exact Int.mul_le_mul_of_nonneg_right (Int.mul_le_mul_of_nonneg_left z4 (by omega)) (Int.pow_nonneg (by decide))
end Pd
end
section
namespace Pd
open PySem L2
structure SpFull (s : Sp) : Prop where
  ok : SpOk s
  sw : SwOk s.cs.length s.sw
  dv : ∀ c ∈ s.cs, c ∣ s.lap
  c8 : ∀ c ∈ s.cs, c ≤ 8
  n9 : s.cs.length ≤ 9
  zs : ∃ zs : List (Int × Int), s.zones = .lst (zs.map zoneD) ∧ s.cs = countsOf zs ∧ (∀ z ∈ zs, ZoneOk z) ∧ 1 ≤ zs.length ∧ zs.length ≤ 3
theorem counts_ok : ∀ {zs : List (Int × Int)}, (∀ z ∈ zs, ZoneOk z) → (∀ c ∈ countsOf zs, 1 ≤ c ∧ c ≤ 8) ∧ zs.length ≤ (countsOf zs).length ∧ (countsOf zs).length ≤ 3 * zs.length
  | [], _ => ⟨fun c h => by simp [countsOf] at h, by simp [countsOf], by simp [countsOf]⟩
  | z :: zs, h => by
    obtain ⟨z1, z2, z3, z4⟩ := h z List.mem_cons_self
    obtain ⟨h1, h2, h3⟩ := counts_ok (zs := zs) fun y hy => h y (List.mem_cons_of_mem _ hy)
    unfold countsOf
    refine ⟨fun c hc => ?_, ?_, ?_⟩
    · rcases List.mem_append.mp hc with q | q
      · rw [List.eq_of_mem_replicate q]; exact ⟨z3, z4⟩
      · exact h1 c q
    · rw [List.length_append, List.length_replicate, List.length_cons]; omega
    · rw [List.length_append, List.length_replicate, List.length_cons]; omega
end Pd
end
section
namespace Pd
open PySem L2
theorem law_spec_k (cell more : Int) : ∃ s : Sp, SpFull s ∧ F__law_spec [pureV (.int cell), pureV (.int more)] = .ok (pureV s.d) [none, none] := by
  have hs := F_stream cell 24 (by decide)
  have hX : (stream cell 24).length = 24 := stream_len cell 24
  have hp : ∀ x ∈ stream cell 24, 0 ≤ x := fun x h => (stream_ok x h).1
  revert hs hX hp
  generalize stream cell 24 = X
  intro hs hX hp
  have hs' : F__law_stream [pureV (.int cell), pureV (.int 24)] = .ok ⟨1, false, .lst (X.map .int)⟩ [none, none] := hs
  have gi : ∀ k : Nat, k < 24 → atI (X.map D.int) (k : Int) = some (.int (g X k)) := fun k hk => atI_g rfl (by omega)
  have i0 : atI (X.map D.int) 0 = some (.int (g X 0)) := gi 0 (by decide)
  have i1 : atI (X.map D.int) 1 = some (.int (g X 1)) := gi 1 (by decide)
  have i2 : atI (X.map D.int) 2 = some (.int (g X 2)) := gi 2 (by decide)
  have i7 : atI (X.map D.int) 7 = some (.int (g X 7)) := gi 7 (by decide)
  have i8 : atI (X.map D.int) 8 = some (.int (g X 8)) := gi 8 (by decide)
  have i9 : atI (X.map D.int) 9 = some (.int (g X 9)) := gi 9 (by decide)
  let z0 : Int × Int := (2 + g X 1 % 2, 1 + g X 2 % 8)
  have zk : ∀ z ∈ [z0], ZoneOk z := fun z hz => by
    rw [List.mem_singleton.mp hz]
    show 1 ≤ 2 + g X 1 % 2 ∧ 2 + g X 1 % 2 ≤ 3 ∧ 1 ≤ 1 + g X 2 % 8 ∧ 1 + g X 2 % 8 ≤ 8
    omega
  let m : Nat := (g X 0 % 3).toNat
  have hm : (g X 0 % 3) = (m : Int) := by show _ = ((g X 0 % 3).toNat : Int); omega
  obtain ⟨zs, y4, e1, l1, z1, hd⟩ := zonesL X hX (.int cell) (.int more) m 0 [z0] none rfl (by omega) zk
  obtain ⟨y7, y8, e2⟩ := countsL (.int cell) (.int more) (.lst (X.map .int)) (.lst (zs.map zoneD)) 1 y4 zs 1 [] none none z1 (by simp; omega)
  have hz3 : zs.length ≤ 3 := by omega
  have hz1 : 1 ≤ zs.length := by omega
  obtain ⟨w1, w2⟩ := whole_b zs 1 z1 (by decide)
  have w3 : wholeOf 1 zs ≤ 512 := by
    have : (8 : Int) ^ zs.length ≤ 512 := by
      have h : zs.length = 1 ∨ zs.length = 2 ∨ zs.length = 3 := by omega
      rcases h with h | h | h <;> rw [h] <;> decide
    omega
  obtain ⟨c1, c2, c3⟩ := counts_ok z1
  have hhd : ∃ tl, zs = z0 :: tl := by
    cases zs with
    | nil => simp at hz1
    | cons a l => simp at hd; exact ⟨l, by rw [hd]⟩
  have n2 : 2 ≤ (countsOf zs).length := by
    obtain ⟨tl, rfl⟩ := hhd
    unfold countsOf
    rw [List.length_append, List.length_replicate]
    show 2 ≤ (2 + g X 1 % 2).toNat + _
    omega
  have key : ∀ lap : Int, (∃ k : Int, lap = wholeOf 1 zs * k) → 1 ≤ lap → lap ≤ 1000000000 → ∀ sw, SwOk (countsOf zs).length sw → SpFull ⟨.lst (zs.map zoneD), countsOf zs, lap, g X 9 % lap, sw⟩ := fun lap hk l1 l2 sw hsw =>
    ⟨⟨fun c hc => ⟨(c1 c hc).1, by have := (c1 c hc).2; omega⟩, ⟨l1, l2⟩, ⟨Int.emod_nonneg _ (by omega), Int.emod_lt_of_pos _ (by omega)⟩, ⟨n2, by show (countsOf zs).length ≤ 120; omega⟩, hsw.len⟩, hsw, fun c hc => by
      obtain ⟨k, rfl⟩ := hk
      exact Int.dvd_trans ((whole_dvd zs 1).1 c hc) (Int.dvd_mul_right _ _), fun c hc => (c1 c hc).2, by show (countsOf zs).length ≤ 9; omega, ⟨zs, rfl, rfl, z1, hz1, hz3⟩⟩
  obtain ⟨sw, hsw, e3⟩ : ∃ sw, SwOk (countsOf zs).length sw ∧ F__law_swing [pureV (.lst (X.map .int)), pureV (.int ((countsOf zs).length : Nat))] = .ok ⟨1, false, .lst (sw.map .int)⟩ [none, none] := by
    by_cases h10 : g X 10 % 2 = 0
    · exact law_swing1 X hX hp (by omega) h10
    · exact law_swing2 X hX (by omega) h10
  have b0 : RB (g X 0 % 3) := by unfold RB; omega
  have p9 : oPow ⟨0, false, .int 10⟩ ⟨0, false, .int 9⟩ = some (pureV (.int 1000000000)) := by rw [oPow_i (by decide)]; rfl
  have em : (g X 0 % 3).toNat = m := rfl
  have q5 : ∀ x : Int, oMul ⟨0, false, .int (wholeOf 1 zs)⟩ ⟨0, false, .int x⟩ = some (pureV (.int (wholeOf 1 zs * x))) := fun x => oMul_l (by omega)
  have ez : D.tup [.int (2 + g X 1 % 2), .int (1 + g X 2 % 8)] = zoneD z0 := rfl
  simp only [List.map_cons, List.map_nil, List.nil_append] at e1 e2
  by_cases h8 : g X 8 % 9 = 0
  · have q7 : oDiv ⟨0, false, .int 1000000000⟩ ⟨0, false, .int (wholeOf 1 zs)⟩ = some (pureV (.int (1000000000 / wholeOf 1 zs))) := oDiv_i (by omega) (by omega)
    have d1 : 1 ≤ 1000000000 / wholeOf 1 zs := (Int.le_ediv_iff_mul_le (by omega)).mpr (by omega)
    have q8 : oMod ⟨0, false, .int more⟩ ⟨0, false, .int (1000000000 / wholeOf 1 zs)⟩ = some (pureV (.int (more % (1000000000 / wholeOf 1 zs)))) := oMod_i (by omega)
    have m1 : 0 ≤ more % (1000000000 / wholeOf 1 zs) := Int.emod_nonneg _ (by omega)
    have m2 : more % (1000000000 / wholeOf 1 zs) < 1000000000 / wholeOf 1 zs := Int.emod_lt_of_pos _ (by omega)
    let lap : Int := wholeOf 1 zs * (1 + more % (1000000000 / wholeOf 1 zs))
    have l1 : 1 ≤ lap := by
      have := Int.mul_le_mul w1 (show 1 ≤ 1 + more % (1000000000 / wholeOf 1 zs) by omega) (by omega) (by omega)
      show 1 ≤ wholeOf 1 zs * (1 + more % (1000000000 / wholeOf 1 zs))
      omega
    have l2 : lap ≤ 1000000000 := by
      have h1 := Int.mul_le_mul_of_nonneg_left (show 1 + more % (1000000000 / wholeOf 1 zs) ≤ 1000000000 / wholeOf 1 zs by omega) (show 0 ≤ wholeOf 1 zs by omega)
      have h2 := Int.mul_ediv_self_le (x := 1000000000) (k := wholeOf 1 zs) (by omega)
      exact Int.le_trans h1 h2
    refine ⟨_, key lap ⟨_, rfl⟩ l1 l2 sw hsw, ?_⟩
    have q6 : oMod ⟨0, false, .int (g X 9)⟩ ⟨0, false, .int lap⟩ = some (pureV (.int (g X 9 % lap))) := oMod_i (by omega)
    have el : wholeOf 1 zs * (1 + more % (1000000000 / wholeOf 1 zs)) = lap := rfl
    unfold F__law_spec runFn c__law_spec
    simp [-List.map_map, enter, hs', i0, i1, i2, i7, i8, i9, eq_true b0, em, rng0, ez, e1, e2, q5, q6, q7, q8, p9, h8, el, e3, Sp.d]
  · have h8' : (g X 8 % 9 == 0) = false := beq_eq_false_iff_ne.mpr h8
    let lap : Int := wholeOf 1 zs * (1 + g X 7 % 900)
    have k1 : 1 ≤ 1 + g X 7 % 900 ∧ 1 + g X 7 % 900 ≤ 900 := by omega
    have l1 : 1 ≤ lap := by
      have := Int.mul_le_mul w1 k1.1 (by omega) (by omega)
      show 1 ≤ wholeOf 1 zs * (1 + g X 7 % 900)
      omega
    have l2 : lap ≤ 1000000000 := by
      have := Int.mul_le_mul w3 k1.2 (by omega) (by omega)
      show wholeOf 1 zs * (1 + g X 7 % 900) ≤ 1000000000
      omega
    refine ⟨_, key lap ⟨_, rfl⟩ l1 l2 sw hsw, ?_⟩
    have q6 : oMod ⟨0, false, .int (g X 9)⟩ ⟨0, false, .int lap⟩ = some (pureV (.int (g X 9 % lap))) := oMod_i (by omega)
    have el : wholeOf 1 zs * (1 + g X 7 % 900) = lap := rfl
    unfold F__law_spec runFn c__law_spec
    simp [-List.map_map, enter, hs', i0, i1, i2, i7, i8, i9, eq_true b0, em, rng0, ez, e1, e2, q5, q6, h8', el, e3, Sp.d]
end Pd
end
section
namespace Pd
open PySem L2
theorem check_lapL (d0 d2 : D) (lap : Int) : ∀ (cs : List Int) (x3 : Slot), (∀ c ∈ cs, 1 ≤ c ∧ c ∣ lap) → ∃ y3 : Slot, forL (.nm 3) (sIf (e2 true (oB0 fun i j => decide (j < i)) (e2 true oMod (eVar 1) (eVar 3)) (eC (.int 0))) (sNever) (sNil)) (cs.map .int) [some (0, d0), some (0, .int lap), some (0, d2), x3] = .nx [some (0, d0), some (0, .int lap), some (0, d2), y3]
  | [], x3, _ => ⟨x3, rfl⟩
  | c :: cs, x3, h => by
    obtain ⟨y3, e⟩ := check_lapL d0 d2 lap cs (some (0, .int c)) fun x hx => h x (List.mem_cons_of_mem _ hx)
    obtain ⟨h1, h2⟩ := h c List.mem_cons_self
    refine ⟨y3, ?_⟩
    rw [List.map_cons]
    unfold forL
    have q : oMod ⟨0, false, .int lap⟩ ⟨0, false, .int c⟩ = some (pureV (.int 0)) := by
      rw [oMod_i (by omega), Int.emod_eq_zero_of_dvd h2]
    simp [q]
    exact e
theorem check_lap_k {cs : List Int} {lap skew : Int} (h : ∀ c ∈ cs, 1 ≤ c ∧ c ∣ lap) (l : 1 ≤ lap ∧ lap ≤ 1000000000) (s : 0 ≤ skew ∧ skew < lap) : F_check_lap [pureV (.frl (cs.map .int)), pureV (.int lap), pureV (.int skew)] = .ok (pureV .non) [none, none, none] := by
  obtain ⟨y3, e⟩ := check_lapL (.frl (cs.map .int)) (.int skew) lap cs none h
  unfold F_check_lap runFn c_check_lap
  simp [enter, bLe, bLt, l.1, l.2, s.1, s.2, e]
end Pd
end
section
namespace Pd
open PySem L2
/-! check_swing, ring_counts, a plate's making -/
theorem cs1L {sw : List Int} {n : Nat} (h : SwOk n sw) (d1 : D) : ∀ (m j : Nat) (x2 : Slot), 1 ≤ j → j + m = n → ∃ y2 : Slot, forL (.nm 2) (sIf (eOr (eNot (eChain bLe bLe (eC (.int 1)) (e2 true oIdx (eVar 0) (eVar 2)) (eC (.int 1000000000)))) (e2 true (oB0 fun i j => decide (i < j)) (e2 true oIdx (eVar 0) (eVar 2)) (e2 true oIdx (eVar 0) (e2 true oSub (eVar 2) (eC (.int 1)))))) (sNever) (sNil))
      ((List.range' j m).map fun i : Nat => D.int (i : Int)) [some (0, .lst (sw.map .int)), some (0, d1), x2, none, none] = .nx [some (0, .lst (sw.map .int)), some (0, d1), y2, none, none]
  | 0, j, x2, _, _ => ⟨x2, rfl⟩
  | m + 1, j, x2, h1, h2 => by
    obtain ⟨y2, e⟩ := cs1L h d1 m (j + 1) (some (0, .int (j : Int))) (by omega) (by omega)
    obtain ⟨b1, b2⟩ := h.b j h1 (by omega)
    have up := h.up j h1 (by omega)
    refine ⟨y2, ?_⟩
    rw [List.range'_succ, List.map_cons]
    unfold forL
    have a1 : atI (sw.map D.int) (j : Int) = some (.int (g sw j)) := atI_g rfl (by rw [h.len]; omega)
    have a2 : atI (sw.map D.int) ((j : Int) - 1) = some (.int (g sw (j - 1))) := atI_g (k := j - 1) (by omega) (by rw [h.len]; omega)
    have nlt : ¬ (g sw j < g sw (j - 1)) := by omega
    simp [a1, a2, bLe, b1, b2, nlt]
    exact e
theorem cs3L {sw : List Int} {n : Nat} (h : SwOk n sw) (d1 : D) (x2 : Slot) (a : Nat) (ha : 1 ≤ a) : ∀ (m j : Nat) (x4 : Slot), a ≤ j → (m = 0 ∨ j + m + a ≤ n) → ∃ y4 : Slot, forL (.nm 4) (sIf (e2 true (oB0 fun i j => decide (j < i)) (e2 true oIdx (eVar 0) (e2 true oAdd (eVar 3) (eVar 4))) (e2 true oAdd (e2 true oIdx (eVar 0) (eVar 3)) (e2 true oIdx (eVar 0) (eVar 4)))) (sNever) (sNil))
      ((List.range' j m).map fun i : Nat => D.int (i : Int)) [some (0, .lst (sw.map .int)), some (0, d1), x2, some (0, .int a), x4] = .nx [some (0, .lst (sw.map .int)), some (0, d1), x2, some (0, .int a), y4]
  | 0, j, x4, _, _ => ⟨x4, rfl⟩
  | m + 1, j, x4, h1, h2 => by
    have h2' : j + (m + 1) + a ≤ n := by omega
    obtain ⟨y4, e⟩ := cs3L h d1 x2 a ha m (j + 1) (some (0, .int (j : Int))) (by omega) (by omega)
    refine ⟨y4, ?_⟩
    have sub := h.sub a j ha (by omega) (by omega)
    rw [List.range'_succ, List.map_cons]
    unfold forL
    have a1 : atI (sw.map D.int) (j : Int) = some (.int (g sw j)) := atI_g rfl (by rw [h.len]; omega)
    have a2 : atI (sw.map D.int) (a : Int) = some (.int (g sw a)) := atI_g rfl (by rw [h.len]; omega)
    have a3 : atI (sw.map D.int) ((a : Int) + (j : Int)) = some (.int (g sw (a + j))) := atI_g (k := a + j) (by omega) (by rw [h.len]; omega)
    have nlt : ¬ (g sw a + g sw j < g sw (a + j)) := by omega
    simp [a1, a2, a3, nlt]
    exact e
theorem cs2L {sw : List Int} {n : Nat} (h : SwOk n sw) (hn : n < 1000) (x2 : Slot) : ∀ (m j : Nat) (x3 x4 : Slot), 1 ≤ j → j + m = n → ∃ y3 y4 : Slot, forL (.nm 3) (sFor (.nm 4) (iR2 (eVar 3) (e2 true oSub (eVar 1) (eVar 3))) (sIf (e2 true (oB0 fun i j => decide (j < i)) (e2 true oIdx (eVar 0) (e2 true oAdd (eVar 3) (eVar 4))) (e2 true oAdd (e2 true oIdx (eVar 0) (eVar 3)) (e2 true oIdx (eVar 0) (eVar 4)))) (sNever) (sNil)))
      ((List.range' j m).map fun i : Nat => D.int (i : Int)) [some (0, .lst (sw.map .int)), some (0, .int n), x2, x3, x4] = .nx [some (0, .lst (sw.map .int)), some (0, .int n), x2, y3, y4]
  | 0, j, x3, x4, _, _ => ⟨x3, x4, rfl⟩
  | m + 1, j, x3, x4, h1, h2 => by
    obtain ⟨z4, e1⟩ := cs3L h (.int n) x2 j h1 (n - j - j) j x4 (Nat.le_refl _) (by omega)
    obtain ⟨y3, y4, e⟩ := cs2L h hn x2 m (j + 1) (some (0, .int (j : Int))) z4 (by omega) (by omega)
    refine ⟨y3, y4, ?_⟩
    rw [List.range'_succ, List.map_cons]
    unfold forL
    have b1 : RB (j : Int) := by unfold RB; omega
    have b2 : RB ((n : Int) - (j : Int)) := by unfold RB; omega
    have er : rng (j : Int) ((n : Int) - (j : Int) - (j : Int)).toNat = (List.range' j (n - j - j)).map fun i : Nat => D.int (i : Int) := by
      rw [show ((n : Int) - (j : Int) - (j : Int)).toNat = n - j - j by omega]; exact rng_nat j _
    have er' : rng (j : Int) (n - j - j) = (List.range' j (n - j - j)).map fun i : Nat => D.int (i : Int) := rng_nat j _
    simp [eq_true b1, eq_true b2, er, er', e1]
    exact e
theorem check_swing_k {sw : List Int} {n : Nat} (h : SwOk n sw) (hn : 2 ≤ n ∧ n < 1000) : F_check_swing [pureV (.lst (sw.map .int)), pureV (.int n)] = .ok (pureV .non) [none, none] := by
  obtain ⟨y2, e1⟩ := cs1L h (.int n) (n - 1) 1 none (by omega) (by omega)
  obtain ⟨y3, y4, e2⟩ := cs2L h hn.2 y2 (n - 1) 1 none none (by omega) (by omega)
  have a0 : atI (sw.map D.int) 0 = some (.int 0) := by
    have : atI (sw.map D.int) 0 = some (.int (g sw 0)) := atI_g (k := 0) rfl (by rw [h.len]; omega)
    rw [this, h.z]
  have b1 : RB 1 := by unfold RB; decide
  have b2 : RB (n : Int) := by unfold RB; omega
  have er : rng 1 ((n : Int) - 1).toNat = (List.range' 1 (n - 1)).map fun i : Nat => D.int (i : Int) := by
    rw [show ((n : Int) - 1).toNat = n - 1 by omega]; exact rng_nat 1 _
  have er' : rng 1 (n - 1) = (List.range' 1 (n - 1)).map fun i : Nat => D.int (i : Int) := rng_nat 1 (n - 1)
  unfold F_check_swing runFn c_check_swing
  simp [enter, h.len, a0, eq_true b1, eq_true b2, er, er', e1, e2]
theorem rc1L (q0 : Nat) (d0 d2 : D) (c : Int) : ∀ (m j : Nat) (acc : List Int) (x4 : Slot), acc.length + m < 100000 → ∃ y4 : Slot, forL (.nm 4) (sApp true (lVar 1) (eUse 3)) ((List.range' j m).map fun i : Nat => D.int (i : Int)) [some (q0, d0), some (1, .lst (acc.map .int)), some (0, d2), some (0, .int c), x4] =
      .nx [some (q0, d0), some (1, .lst ((acc ++ List.replicate m c).map .int)), some (0, d2), some (0, .int c), y4]
  | 0, j, acc, x4, _ => ⟨x4, by simp [forL]⟩
  | m + 1, j, acc, x4, hl => by
    obtain ⟨y4, e⟩ := rc1L q0 d0 d2 c m (j + 1) (acc ++ [c]) (some (0, .int (j : Int))) (by rw [List.length_append, List.length_singleton]; omega)
    refine ⟨y4, ?_⟩
    rw [List.range'_succ, List.map_cons]
    unfold forL
    have hb : acc.length < BIG := Nat.lt_of_lt_of_le (show acc.length < 100000 by omega) (by decide)
    simp [-List.map_replicate, hb]
    simpa [List.replicate_succ] using e
theorem rcL (q0 : Nat) (d0 : D) : ∀ (zs : List (Int × Int)) (acc : List Int) (x2 x3 x4 : Slot), (∀ z ∈ zs, ZoneOk z) → acc.length + 3 * zs.length < 1000 → ∃ y2 y3 y4 : Slot, forL (.tp [2, 3]) (sSeq (sIf (eOr (eNot (eChain bLe bLe (eC (.int 1)) (eVar 2) (eC (.int 40)))) (eNot (eChain bLe bLe (eC (.int 1)) (eVar 3) (eC (.int 60))))) (sNever) (sNil)) (sFor (.nm 4) (iR1 (eVar 2)) (sApp true (lVar 1) (eUse 3))))
      (zs.map zoneD) [some (q0, d0), some (1, .lst (acc.map .int)), x2, x3, x4] = .nx [some (q0, d0), some (1, .lst ((acc ++ countsOf zs).map .int)), y2, y3, y4]
  | [], acc, x2, x3, x4, _, _ => ⟨x2, x3, x4, by simp [forL, countsOf]⟩
  | (m, c) :: zs, acc, x2, x3, x4, hz, hl => by
    obtain ⟨z1, z2, z3, z4⟩ := hz (m, c) List.mem_cons_self
    rw [List.length_cons] at hl
    obtain ⟨w4, e1⟩ := rc1L q0 d0 (.int m) c m.toNat 0 acc x4 (by omega)
    obtain ⟨y2, y3, y4, e⟩ := rcL q0 d0 zs (acc ++ List.replicate m.toNat c) (some (0, .int m)) (some (0, .int c)) w4 (fun z h => hz z (List.mem_cons_of_mem _ h)) (by rw [List.length_append, List.length_replicate]; omega)
    refine ⟨y2, y3, y4, ?_⟩
    rw [List.map_cons]
    unfold forL
    have b1 : RB m := by unfold RB; omega
    have l1 : m ≤ 40 := by omega
    have l2 : c ≤ 60 := by omega
    have z1' : 1 ≤ m := z1
    have z3' : 1 ≤ c := z3
    simp [-List.map_append, -List.map_replicate, zoneD, bLe, z1', z3', l1, l2, eq_true b1, rng0, e1]
    simpa [countsOf] using e
theorem ring_counts_k {zs : List (Int × Int)} (hz : ∀ z ∈ zs, ZoneOk z) (h1 : 1 ≤ zs.length ∧ zs.length ≤ 3) (h2 : 2 ≤ (countsOf zs).length) : F_ring_counts [pureV (.lst (zs.map zoneD))] = .ok ⟨1, false, .lst ((countsOf zs).map .int)⟩ [none] := by
  obtain ⟨y2, y3, y4, e⟩ := rcL 0 (.lst (zs.map zoneD)) zs [] none none none hz (by simp; omega)
  obtain ⟨c1, c2, c3⟩ := counts_ok hz
  have l1 : (1 : Int) ≤ (zs.length : Int) := by omega
  have l2 : (zs.length : Int) ≤ 5 := by omega
  have l3 : (2 : Int) ≤ ((countsOf zs).length : Int) := by omega
  have l4 : ((countsOf zs).length : Int) ≤ 120 := by omega
  simp only [List.map_nil, List.nil_append] at e
  unfold F_ring_counts runFn c_ring_counts
  simp [enter, bLe, l1, l2, l3, l4, e]
@[simp] theorem part_f {q : Nat} {b : Bool} {d : D} {ds : List D} : part ⟨q, b, d⟩ (.frl ds) = some (pureV (.frl ds)) := by simp [part, immut]
@[simp] theorem mp1 : Nm.n_counts ∈ ft .n_Plate := by decide
@[simp] theorem mp2 : Nm.n_lap ∈ ft .n_Plate := by decide
@[simp] theorem mp3 : Nm.n_skew ∈ ft .n_Plate := by decide
@[simp] theorem mp4 : Nm.n_swings ∈ ft .n_Plate := by decide
@[simp] theorem mp5 : Nm.n_spare ∈ ft .n_Plate := by decide
@[simp] theorem mm1 : Nm.n_counts ∈ ft .n_Mended := by decide
@[simp] theorem mm2 : Nm.n_lap ∈ ft .n_Mended := by decide
@[simp] theorem mm3 : Nm.n_skew ∈ ft .n_Mended := by decide
@[simp] theorem mm4 : Nm.n_swings ∈ ft .n_Mended := by decide
@[simp] theorem mm5 : Nm.n_spare ∈ ft .n_Mended := by decide
@[simp] theorem mm6 : Nm.n_bad ∈ ft .n_Mended := by decide
@[simp] theorem mm7 : Nm.n_moved ∈ ft .n_Mended := by decide
@[simp] theorem mm8 : Nm.n_lies ∈ ft .n_Mended := by decide
theorem plate_init_k {C : Nm} (hC : C = .n_Plate ∨ C = .n_Mended) {s : Sp} (h : SpFull s) {m qz qw : Nat} : F_PlateUU_initUU [⟨m + 1, false, .ins C [] []⟩, ⟨qz, false, s.zones⟩, pureV (.int s.lap), pureV (.int s.skew), ⟨qw, false, .lst (s.sw.map .int)⟩] =
    .ok (pureV .non) [some (m + 1, .ins C [.n_counts, .n_lap, .n_skew, .n_swings, .n_spare] [.frl (s.cs.map .int), .int s.lap, .int s.skew, .frl (s.sw.map .int), .int 0]), none, none, none, none] := by
  obtain ⟨zs, ez, ec, zk, z1, z2⟩ := h.zs
  have k1 := ring_counts_k zk ⟨z1, z2⟩ (by rw [← ec]; exact h.ok.nb.1)
  rw [← ez, ← ec] at k1
  have k2 := check_lap_k (cs := s.cs) (fun c hc => ⟨(h.ok.cb c hc).1, h.dv c hc⟩) h.ok.lb h.ok.kb
  have k3 := check_swing_k h.sw ⟨h.ok.nb.1, by have := h.n9; omega⟩
  have ol : oList ⟨0, false, .lst (s.sw.map .int)⟩ = some ⟨1, false, .lst (s.sw.map .int)⟩ := by simp [oList]
  unfold F_PlateUU_initUU runFn c_PlateUU_initUU
  rcases hC with rfl | rfl
  · simp [enter, k1, putNs, putDs, oFld, lookN, k2, k3, ol]
  · simp [enter, k1, putNs, putDs, oFld, lookN, k2, k3, ol]
end Pd
end
section
namespace Pd
open PySem L2
/-! dicts -/
section
variable {κ α : Type} [DecidableEq κ]
theorem lookD_no {k : κ} : ∀ {ks : List κ} {ds : List D}, k ∉ ks → lookD ks ds k = none
  | [], _, _ => by simp [lookD]
  | k0 :: ks, [], _ => by simp [lookD]
  | k0 :: ks, d :: ds, h => by
    have h1 : ¬ k0 = k := fun e => h (by rw [e]; exact List.mem_cons_self)
    simp only [lookD, if_neg h1]
    exact lookD_no fun q => h (List.mem_cons_of_mem _ q)
theorem lookD_yes {kf : α → κ} {vf : α → D} : ∀ {xs : List α} {k : κ} {d : D}, lookD (xs.map kf) (xs.map vf) k = some d → ∃ x ∈ xs, kf x = k ∧ vf x = d
  | [], k, d, h => by simp [lookD] at h
  | x :: xs, k, d, h => by
    simp only [List.map_cons, lookD] at h
    by_cases c : kf x = k
    · rw [if_pos c] at h
      cases h
      exact ⟨x, List.mem_cons_self, c, rfl⟩
    · rw [if_neg c] at h
      obtain ⟨y, h1, h2⟩ := lookD_yes h
      exact ⟨y, List.mem_cons_of_mem _ h1, h2⟩
theorem lookD_mem {kf : α → κ} {vf : α → D} : ∀ {xs : List α} {x : α}, (xs.map kf).Nodup → x ∈ xs → lookD (xs.map kf) (xs.map vf) (kf x) = some (vf x)
  | [], x, _, h => by cases h
  | y :: xs, x, hn, h => by
    simp only [List.map_cons, lookD]
    rw [List.map_cons, List.nodup_cons] at hn
    by_cases c : kf y = kf x
    · rw [if_pos c]
      rcases List.mem_cons.mp h with rfl | h
      · rfl
      · exact absurd (List.mem_map_of_mem (f := kf) h) (by rw [← c]; exact hn.1)
    · rw [if_neg c]
      rcases List.mem_cons.mp h with rfl | h
      · exact absurd rfl c
      · exact lookD_mem hn.2 h
theorem putKs_new {k : κ} : ∀ {ks : List κ}, k ∉ ks → putKs k ks = ks ++ [k]
  | [], _ => rfl
  | k0 :: ks, h => by
    have h1 : ¬ k0 = k := fun e => h (by rw [e]; exact List.mem_cons_self)
    simp only [putKs, if_neg h1, List.cons_append]
    rw [putKs_new fun q => h (List.mem_cons_of_mem _ q)]
theorem putKd_new {k : κ} {d : D} : ∀ {ks : List κ} {ds : List D}, ks.length = ds.length → k ∉ ks → putKd k d ks ds = ds ++ [d]
  | [], [], _, _ => rfl
  | [], _ :: _, h, _ => by simp at h
  | _ :: _, [], h, _ => by simp at h
  | k0 :: ks, e :: ds, hl, h => by
    have h1 : ¬ k0 = k := fun e => h (by rw [e]; exact List.mem_cons_self)
    simp only [putKd, if_neg h1, List.cons_append]
    rw [putKd_new (by simpa using hl) fun q => h (List.mem_cons_of_mem _ q)]
theorem putKs_old {k : κ} : ∀ {ks : List κ}, k ∈ ks → putKs k ks = ks
  | [], h => by cases h
  | k0 :: ks, h => by
    by_cases c : k0 = k
    · simp [putKs, c]
    · simp only [putKs, if_neg c]
      rw [putKs_old]
      rcases List.mem_cons.mp h with e | e
      · exact absurd e.symm c
      · exact e
theorem putKd_old {k : κ} {d : D} {f : α → κ} : ∀ {xs : List α}, k ∈ xs.map f → putKd k d (xs.map f) (xs.map fun _ => d) = xs.map fun _ => d
  | [], h => by cases h
  | x :: xs, h => by
    simp only [List.map_cons]
    by_cases c : f x = k
    · simp [putKd, c]
    · simp only [putKd, if_neg c]
      rw [putKd_old]
      rcases List.mem_cons.mp h with e | e
      · exact absurd e.symm c
      · exact e
end
def K2 (c : Int × Int) : List Key := [.inl c.1, .inl c.2]
theorem K2_inj {a b : Int × Int} (h : K2 a = K2 b) : a = b := by
  unfold K2 at h
  injection h with h1 h2
  injection h2 with h2 h3
  injection h1 with h1
  injection h2 with h2
  exact Prod.ext h1 h2
theorem K2_mem {c : Int × Int} {xs : List (Int × Int)} : K2 c ∈ xs.map K2 ↔ c ∈ xs := by
  constructor
  · intro h
    obtain ⟨y, h1, h2⟩ := List.mem_map.mp h
    rw [← K2_inj h2]; exact h1
  · exact fun h => List.mem_map_of_mem h
theorem K2_nodup {xs : List (Int × Int)} (h : xs.Nodup) : (xs.map K2).Nodup := by
  unfold List.Nodup
  rw [List.pairwise_map]
  exact h.imp fun hn e => hn (K2_inj e)
theorem keyTD_K2 (c : Int × Int) : keyTD (K2 c) = cellD c := rfl
section
variable {ρ : Vr} {lc : LF} {fk fy fa fb : EF} {d c : D} {j : Nat} {p : List Nat}
@[simp] theorem run_dps {sk : Bool} : sDpS sk lc fk fy ρ = (fy ρ).bindS fun y ρ0 => if y.b = true then .stuck else match lc ρ0 with
  | .ok i p ρ1 => if sk = true ∨ p = [] then (fk ρ1).bindS fun x ρ2 => mutS i p ρ2 (putK' x y) else .stuck
  | .stuck => .stuck := nr rfl
@[simp] theorem run_lfld {ft : Nm → List Nm} {n : Nm} : lFld ft n lc ρ = (match lc ρ with
  | .ok i p ρ1 => match ρ1[i]? with
    | some (some (_, d)) => match getP d p with
      | some (.ins C ns ds) => match ixNm n ns with
        | some j => if n ∈ ft C ∧ j < ds.length then .ok i (p ++ [j]) ρ1 else .stuck
        | none => .stuck
      | _ => .stuck
    | _ => .stuck
  | .stuck => .stuck) := nr rfl
@[simp] theorem getP_cons : getP d (j :: p) = ((kids d)[j]?).bind fun c => getP c p := nr rfl
@[simp] theorem setP_cons : setP d (j :: p) c = withK d ((kids d).set j (setP ((kids d)[j]?.getD .non) p c)) := nr rfl
@[simp] theorem kids_ins {C : Nm} {ns : List Nm} {ds : List D} : kids (.ins C ns ds) = ds := nr rfl
@[simp] theorem withK_ins {C : Nm} {ns : List Nm} {ds es : List D} : withK (.ins C ns ds) es = .ins C ns es := nr rfl
theorem putK_t {q : Nat} {b : Bool} {r k : Int} {y : RV} {j : Nat} {ks : List (List Key)} {ds : List D} : putK' ⟨q, b, .tup [.int r, .int k]⟩ y j (.dt ks ds) = if ks.Nodup ∧ ks.length < BIG ∧ (j ≤ y.q ∨ immut y.d = true) then some (.dt (putKs (K2 (r, k)) ks) (putKd (K2 (r, k)) y.d ks ds)) else none := nr rfl
theorem putK_i {q : Nat} {b : Bool} {n : Int} {y : RV} {j : Nat} {ks : List Key} {ds : List D} : putK' ⟨q, b, .int n⟩ y j (.dk ks ds) = if ks.Nodup ∧ ks.length < BIG ∧ (j ≤ y.q ∨ immut y.d = true) then some (.dk (putKs (.inl n) ks) (putKd (.inl n) y.d ks ds)) else none := nr rfl
theorem oDin_t {neg : Bool} {q q' : Nat} {b b' : Bool} {r k : Int} {ks : List (List Key)} {ds : List D} : oDin neg ⟨q, b, .tup [.int r, .int k]⟩ ⟨q', b', .dt ks ds⟩ = some (pureV (.bl ((lookD ks ds (K2 (r, k))).isSome != neg))) := nr rfl
theorem oDin_i {neg : Bool} {q q' : Nat} {b b' : Bool} {n : Int} {ks : List Key} {ds : List D} : oDin neg ⟨q, b, .int n⟩ ⟨q', b', .dk ks ds⟩ = some (pureV (.bl ((lookD ks ds (.inl n)).isSome != neg))) := nr rfl
@[simp] theorem run_iT : iT fa ρ = (fa ρ).bindI fun x ρ1 => match x.d with
  | .tup ds => .ok ds (pureV x.d) ρ1
  | _ => .stuck := nr rfl
end
/-! plain numbers -/
structure PlLike (s : Sp) (sp : Int) (m : Nat) (d : D) : Prop where
  im : immut d = false
  c : ∀ b, oFld ft .n_counts ⟨m, b, d⟩ = some (pureV (.frl (s.cs.map .int)))
  k : ∀ b, oFld ft .n_spare ⟨m, b, d⟩ = some (pureV (.int sp))
theorem plike (p : Pl) (m : Nat) : PlLike p.s p.spare m p.d := ⟨imm_pl, fun _ => fl_counts, fun _ => fl_spare⟩
def pnum (cs : List Int) (sp : Int) (c : Int × Int) : Int := (cs.take c.1.toNat).sum - sp * c.1 + c.2
def numb (cs : List Int) (sp : Int) (c : Int × Int) : Bool := decide (c.2 < getI cs c.1 - sp)
def InPl (cs : List Int) (c : Int × Int) : Prop := 0 ≤ c.1 ∧ c.1 < cs.length ∧ 0 ≤ c.2 ∧ c.2 < getI cs c.1
def pnumD (cs : List Int) (sp : Int) (c : Int × Int) : D := if numb cs sp c = true then .int (pnum cs sp c) else .non
theorem plain_number_k {s : Sp} {sp : Int} {m : Nat} {d : D} (L : PlLike s sp m d) (h : SpOk s) {c : Int × Int} (hc : InPl s.cs c) : F_Plate_plain_number [⟨m, false, d⟩, pureV (.int c.1), pureV (.int c.2)] = .ok (pureV (pnumD s.cs sp c)) [some (m, d), none, none] := by
  obtain ⟨r, k⟩ := c
  obtain ⟨h1, h2, h3, h4⟩ := hc
  dsimp only at h1 h2 h3 h4
  obtain ⟨n, rfl⟩ := Int.eq_ofNat_of_zero_le h1
  have hn := h.nb
  have q1 : oMul ⟨0, false, .int sp⟩ ⟨0, false, .int (n : Int)⟩ = some (pureV (.int (sp * (n : Int)))) := oMul_r (by omega)
  have q2 : oSum ⟨1, false, .lst ((s.cs.map D.int).take n)⟩ = some (pureV (.int (s.cs.take n).sum)) := by
    rw [← List.map_take]
    unfold oSum lsOf
    simp only [Option.bind_some, ints_map, Option.map_some]
  have a1 : atI (s.cs.map D.int) (n : Int) = some (.int (getI s.cs (n : Int))) := atI_int (by omega) h2
  unfold F_Plate_plain_number runFn c_Plate_plain_number
  by_cases hk : k < getI s.cs (n : Int) - sp
  · have hk' : ¬ (getI s.cs (n : Int) - sp ≤ k) := by omega
    by_cases hm : m = 0
    · subst hm
      simp [enter, L.im, L.c, L.k, a1, bLe, bLt, h2, h3, h4, hk', q1, q2, pnumD, numb, hk, pnum]
    · simp [enter, L.im, hm, L.c, L.k, a1, bLe, bLt, h2, h3, h4, hk', q1, q2, pnumD, numb, hk, pnum]
  · have hk' : (getI s.cs (n : Int) - sp ≤ k) := by omega
    by_cases hm : m = 0
    · subst hm
      simp [enter, L.im, L.c, L.k, a1, bLe, bLt, h2, h3, h4, hk', q1, q2, pnumD, numb, hk, pnum]
    · simp [enter, L.im, hm, L.c, L.k, a1, bLe, bLt, h2, h3, h4, hk', q1, q2, pnumD, numb, hk, pnum]
theorem getI_cons0 {x : Int} {xs : List Int} : getI (x :: xs) 0 = x := rfl
theorem getI_succ {x : Int} {xs : List Int} {n : Nat} : getI (x :: xs) ((n + 1 : Nat) : Int) = getI xs (n : Int) := by
  unfold getI
  simp
theorem pcell_num {sp : Int} : ∀ (cs : List Int) (r0 : Int) (n : Nat) (k : Int), (∀ c ∈ cs, sp ≤ c) → n < cs.length → 0 ≤ k → k < getI cs (n : Int) - sp →
    pcell sp cs r0 ((cs.take n).sum - sp * n + k) = some (r0 + n, k) ∧ 0 ≤ (cs.take n).sum - sp * n + k ∧ (cs.take n).sum - sp * n + k < ownSum sp cs
  | [], r0, n, k, _, h, _, _ => by simp at h
  | c :: cs, r0, 0, k, hc, h1, h2, h3 => by
    have h3' : k < c - sp := h3
    have e : ((c :: cs).take 0).sum - sp * ((0 : Nat) : Int) + k = k := by simp
    have hs : 0 ≤ ownSum sp cs := by
      clear h3 h1 h3' e
      induction cs with
      | nil => simp [ownSum]
      | cons x xs ih =>
        unfold ownSum
        have := hc x (by simp)
        have := ih (fun y hy => hc y (by rcases List.mem_cons.mp hy with rfl | q; exact List.mem_cons_self; exact List.mem_cons_of_mem _ (List.mem_cons_of_mem _ q)))
        omega
    rw [e]
    unfold pcell ownSum
    rw [if_pos h3']
    exact ⟨by simp, h2, by omega⟩
  | c :: cs, r0, n + 1, k, hc, h1, h2, h3 => by
    rw [getI_succ] at h3
    obtain ⟨i1, i2, i3⟩ := pcell_num cs (r0 + 1) n k (fun x hx => hc x (List.mem_cons_of_mem _ hx)) (by simpa using h1) h2 h3
    have hc0 := hc c List.mem_cons_self
    have e : ((c :: cs).take (n + 1)).sum - sp * ((n + 1 : Nat) : Int) + k = (c - sp) + ((cs.take n).sum - sp * (n : Int) + k) := by
      rw [List.take_succ_cons, List.sum_cons]
      have : sp * ((n + 1 : Nat) : Int) = sp * (n : Int) + sp := by rw [Int.natCast_succ, Int.mul_add, Int.mul_one]
      omega
    rw [e]
    unfold pcell ownSum
    rw [if_neg (by omega)]
    refine ⟨?_, by omega, by omega⟩
    rw [show c - sp + ((cs.take n).sum - sp * (n : Int) + k) - (c - sp) = (cs.take n).sum - sp * (n : Int) + k by omega, i1]
    congr 2
    omega
theorem pcell_pnum {cs : List Int} {sp : Int} {c : Int × Int} (hs : ∀ x ∈ cs, sp ≤ x) (hc : InPl cs c) (hn : numb cs sp c = true) : pcell sp cs 0 (pnum cs sp c) = some c ∧ 0 ≤ pnum cs sp c ∧ pnum cs sp c < ownSum sp cs := by
  obtain ⟨r, k⟩ := c
  obtain ⟨h1, h2, h3, h4⟩ := hc
  dsimp only at h1 h2 h3 h4
  obtain ⟨n, rfl⟩ := Int.eq_ofNat_of_zero_le h1
  have hk : k < getI cs (n : Int) - sp := by simpa [numb] using hn
  obtain ⟨i1, i2, i3⟩ := pcell_num cs 0 n k hs (by omega) h3 hk
  unfold pnum
  simp only [Int.toNat_natCast]
  refine ⟨?_, i2, i3⟩
  rw [i1]
  congr 2
  omega
theorem pnum_inj {cs : List Int} {sp : Int} {a b : Int × Int} (hs : ∀ x ∈ cs, sp ≤ x) (ha : InPl cs a) (hb : InPl cs b) (na : numb cs sp a = true) (nb : numb cs sp b = true) (e : pnum cs sp a = pnum cs sp b) : a = b := by
  have h1 := (pcell_pnum hs ha na).1
  have h2 := (pcell_pnum hs hb nb).1
  rw [e, h2] at h1
  exact (Option.some.inj h1).symm
end Pd
end
section
namespace Pd
open PySem L2
/-! a free cell -/
section
variable {t : Tg} {f : SF} {d : D} {ds : List D} {ρ ρ1 ρ2 : Vr} {x : RV}
theorem forL_rt (b : bindT t d ρ = some ρ1) (e : f ρ1 = .rt x ρ2) : forL t f (d :: ds) ρ = .rt x ρ2 := by
  unfold forL; rw [b]; dsimp only; rw [e]
theorem forL_nx (b : bindT t d ρ = some ρ1) (e : f ρ1 = .nx ρ2) : forL t f (d :: ds) ρ = forL t f ds ρ2 := by
  conv => lhs; unfold forL
  rw [b]; dsimp only; rw [e]
end
def Kept (cs : List Int) (sp : Int) (c : Int × Int) : Prop := 0 ≤ c.1 ∧ c.1 < cs.length ∧ getI cs c.1 - sp ≤ c.2 ∧ c.2 < getI cs c.1
def freeB (md : Md) (c : Int × Int) : Bool := !(lookD md.bK md.bD (K2 c)).isSome && !(lookD md.lK md.lD (K2 c)).isSome
section
variable {p : Pl} {md : Md}
theorem fl_bad2 (hm : p.md = some md) : oFld ft .n_bad ⟨2, true, p.d⟩ = some ⟨1, true, .dt md.bK md.bD⟩ := by
  unfold Pl.d; rw [hm]; simp [oFld, lookN, part, immut]
theorem fl_lies2 (hm : p.md = some md) : oFld ft .n_lies ⟨2, true, p.d⟩ = some ⟨1, true, .dt md.lK md.lD⟩ := by
  unfold Pl.d; rw [hm]; simp [oFld, lookN, part, immut]
theorem fl_bad0 (hm : p.md = some md) {b : Bool} : oFld ft .n_bad ⟨0, b, p.d⟩ = some (pureV (.dt md.bK md.bD)) := by
  unfold Pl.d; rw [hm]; simp [oFld, lookN, part]
theorem fl_lies0 (hm : p.md = some md) {b : Bool} : oFld ft .n_lies ⟨0, b, p.d⟩ = some (pureV (.dt md.lK md.lD)) := by
  unfold Pl.d; rw [hm]; simp [oFld, lookN, part]
theorem fcI (hm : p.md = some md) (ring : D) (x2 : Slot) (o : Int) : ∀ (m j : Nat) (x4 : Slot), ∃ y4 : Slot,
    (∃ c : Int, (j : Int) ≤ c ∧ c < j + m ∧ freeB md (o, c) = true ∧ forL (.nm 4) (sIf (eAnd (e2 true (oDin true) (eTup [.ev (eUse 3), .ev (eUse 4)]) (eFld ft .n_bad (eVar 0))) (e2 true (oDin true) (eTup [.ev (eUse 3), .ev (eUse 4)]) (eFld ft .n_lies (eVar 0)))) (sRt (eTup [.ev (eUse 3), .ev (eUse 4)])) (sNil)) ((List.range' j m).map fun i : Nat => D.int (i : Int)) [some (2, p.d), some (0, ring), x2, some (0, .int o), x4] = .rt (pureV (cellD (o, c))) [some (2, p.d), some (0, ring), x2, some (0, .int o), y4]) ∨
    ((∀ c : Int, (j : Int) ≤ c → c < j + m → freeB md (o, c) = false) ∧ forL (.nm 4) (sIf (eAnd (e2 true (oDin true) (eTup [.ev (eUse 3), .ev (eUse 4)]) (eFld ft .n_bad (eVar 0))) (e2 true (oDin true) (eTup [.ev (eUse 3), .ev (eUse 4)]) (eFld ft .n_lies (eVar 0)))) (sRt (eTup [.ev (eUse 3), .ev (eUse 4)])) (sNil)) ((List.range' j m).map fun i : Nat => D.int (i : Int)) [some (2, p.d), some (0, ring), x2, some (0, .int o), x4] = .nx [some (2, p.d), some (0, ring), x2, some (0, .int o), y4])
  | 0, j, x4 => ⟨x4, .inr ⟨fun c h1 h2 => by omega, rfl⟩⟩
  | m + 1, j, x4 => by
    rw [List.range'_succ, List.map_cons]
    by_cases hf : freeB md (o, (j : Int)) = true
    · refine ⟨some (0, .int (j : Int)), .inl ⟨j, by omega, by omega, hf, forL_rt (ρ1 := [some (2, p.d), some (0, ring), x2, some (0, .int o), some (0, .int (j : Int))]) (by simp) ?_⟩⟩
      have hf' := hf
      unfold freeB at hf'
      rw [Bool.and_eq_true] at hf'
      obtain ⟨f1, f2⟩ := hf'
      simp at f1 f2
      simp [imm_pl, fl_bad2 hm, fl_lies2 hm, oDin_t, f1, f2, cellD]
    · have hf1 : freeB md (o, (j : Int)) = false := by simpa using hf
      have e0 : (sIf (eAnd (e2 true (oDin true) (eTup [.ev (eUse 3), .ev (eUse 4)]) (eFld ft .n_bad (eVar 0))) (e2 true (oDin true) (eTup [.ev (eUse 3), .ev (eUse 4)]) (eFld ft .n_lies (eVar 0)))) (sRt (eTup [.ev (eUse 3), .ev (eUse 4)])) (sNil)) [some (2, p.d), some (0, ring), x2, some (0, .int o), some (0, .int (j : Int))] = .nx [some (2, p.d), some (0, ring), x2, some (0, .int o), some (0, .int (j : Int))] := by
        have hf' := hf1
        unfold freeB at hf'
        rw [Bool.and_eq_false_iff] at hf'
        by_cases c1 : (lookD md.bK md.bD (K2 (o, (j : Int)))).isSome = true
        · simp [imm_pl, fl_bad2 hm, fl_lies2 hm, oDin_t, c1]
        · have c1' : (lookD md.bK md.bD (K2 (o, (j : Int)))).isSome = false := by simpa using c1
          have c2 : (lookD md.lK md.lD (K2 (o, (j : Int)))).isSome = true := by
            rcases hf' with q | q
            · rw [c1'] at q; simp at q
            · simpa using q
          simp [imm_pl, fl_bad2 hm, fl_lies2 hm, oDin_t, c1', c2]
      have e1 := forL_nx (ds := (List.range' (j + 1) m).map fun i : Nat => D.int (i : Int)) (t := .nm 4) (d := .int (j : Int)) (ρ := [some (2, p.d), some (0, ring), x2, some (0, .int o), x4]) (by simp) e0
      obtain ⟨y4, h⟩ := fcI hm ring x2 o m (j + 1) (some (0, .int (j : Int)))
      refine ⟨y4, ?_⟩
      rw [e1]
      rcases h with ⟨c, h1, h2, h3, h4⟩ | ⟨h1, h2⟩
      · exact .inl ⟨c, by omega, by omega, h3, h4⟩
      · refine .inr ⟨fun c q1 q2 => ?_, h2⟩
        by_cases ec : c = (j : Int)
        · rw [ec]; exact hf1
        · exact h1 c (by omega) (by omega)
theorem fcO (hm : p.md = some md) (h : SpOk p.s) (hs : 0 ≤ p.spare ∧ ∀ c ∈ p.s.cs, p.spare < c) (ring : D) (x2 : Slot) (o : Int) (x4 : Slot) : ∃ y4 : Slot,
    (∃ c : Int, Kept p.s.cs p.spare (o, c) ∧ freeB md (o, c) = true ∧ (sIf (eChain bLe bLt (eC (.int 0)) (eVar 3) (e1 oLen (eFld ft .n_counts (eVar 0)))) (sFor (.nm 4) (iR2 (e2 true oSub (e2 true oIdx (eFld ft .n_counts (eVar 0)) (eVar 3)) (eFld ft .n_spare (eVar 0))) (e2 true oIdx (eFld ft .n_counts (eVar 0)) (eVar 3))) (sIf (eAnd (e2 true (oDin true) (eTup [.ev (eUse 3), .ev (eUse 4)]) (eFld ft .n_bad (eVar 0))) (e2 true (oDin true) (eTup [.ev (eUse 3), .ev (eUse 4)]) (eFld ft .n_lies (eVar 0)))) (sRt (eTup [.ev (eUse 3), .ev (eUse 4)])) (sNil))) (sNil)) [some (2, p.d), some (0, ring), x2, some (0, .int o), x4] = .rt (pureV (cellD (o, c))) [some (2, p.d), some (0, ring), x2, some (0, .int o), y4]) ∨
    ((∀ c : Int, Kept p.s.cs p.spare (o, c) → freeB md (o, c) = false) ∧ (sIf (eChain bLe bLt (eC (.int 0)) (eVar 3) (e1 oLen (eFld ft .n_counts (eVar 0)))) (sFor (.nm 4) (iR2 (e2 true oSub (e2 true oIdx (eFld ft .n_counts (eVar 0)) (eVar 3)) (eFld ft .n_spare (eVar 0))) (e2 true oIdx (eFld ft .n_counts (eVar 0)) (eVar 3))) (sIf (eAnd (e2 true (oDin true) (eTup [.ev (eUse 3), .ev (eUse 4)]) (eFld ft .n_bad (eVar 0))) (e2 true (oDin true) (eTup [.ev (eUse 3), .ev (eUse 4)]) (eFld ft .n_lies (eVar 0)))) (sRt (eTup [.ev (eUse 3), .ev (eUse 4)])) (sNil))) (sNil)) [some (2, p.d), some (0, ring), x2, some (0, .int o), x4] = .nx [some (2, p.d), some (0, ring), x2, some (0, .int o), y4]) := by
  by_cases h1 : 0 ≤ o
  · by_cases h2 : o < p.s.cs.length
    · have hc := h.c h1 h2
      have hlt : p.spare < getI p.s.cs o := by
        refine hs.2 _ ?_
        have : o.toNat < p.s.cs.length := by omega
        unfold getI
        rw [List.getD_eq_getElem?_getD, List.getElem?_eq_getElem this]
        exact List.getElem_mem this
      have b1 : RB (getI p.s.cs o - p.spare) := by unfold RB; omega
      have b2 : RB (getI p.s.cs o) := by unfold RB; omega
      have ec : (getI p.s.cs o - p.spare) = (((getI p.s.cs o - p.spare).toNat : Nat) : Int) := by omega
      have er : rng (getI p.s.cs o - p.spare) (getI p.s.cs o - (getI p.s.cs o - p.spare)).toNat = (List.range' (getI p.s.cs o - p.spare).toNat p.spare.toNat).map fun i : Nat => D.int (i : Int) := by
        rw [show (getI p.s.cs o - (getI p.s.cs o - p.spare)).toNat = p.spare.toNat by omega]
        conv => lhs; rw [ec]
        exact rng_nat _ _
      have a1 : atI (p.s.cs.map D.int) o = some (.int (getI p.s.cs o)) := atI_int h1 h2
      have eb : (sIf (eChain bLe bLt (eC (.int 0)) (eVar 3) (e1 oLen (eFld ft .n_counts (eVar 0)))) (sFor (.nm 4) (iR2 (e2 true oSub (e2 true oIdx (eFld ft .n_counts (eVar 0)) (eVar 3)) (eFld ft .n_spare (eVar 0))) (e2 true oIdx (eFld ft .n_counts (eVar 0)) (eVar 3))) (sIf (eAnd (e2 true (oDin true) (eTup [.ev (eUse 3), .ev (eUse 4)]) (eFld ft .n_bad (eVar 0))) (e2 true (oDin true) (eTup [.ev (eUse 3), .ev (eUse 4)]) (eFld ft .n_lies (eVar 0)))) (sRt (eTup [.ev (eUse 3), .ev (eUse 4)])) (sNil))) (sNil)) [some (2, p.d), some (0, ring), x2, some (0, .int o), x4] = forL (.nm 4) (sIf (eAnd (e2 true (oDin true) (eTup [.ev (eUse 3), .ev (eUse 4)]) (eFld ft .n_bad (eVar 0))) (e2 true (oDin true) (eTup [.ev (eUse 3), .ev (eUse 4)]) (eFld ft .n_lies (eVar 0)))) (sRt (eTup [.ev (eUse 3), .ev (eUse 4)])) (sNil)) ((List.range' (getI p.s.cs o - p.spare).toNat p.spare.toNat).map fun i : Nat => D.int (i : Int)) [some (2, p.d), some (0, ring), x2, some (0, .int o), x4] := by
        rw [← er]
        simp [imm_pl, fl_counts, fl_spare, bLe, bLt, h1, h2, a1, eq_true b1, eq_true b2]
      obtain ⟨y4, q⟩ := fcI hm ring x2 o p.spare.toNat (getI p.s.cs o - p.spare).toNat x4
      refine ⟨y4, ?_⟩
      rw [eb]
      rcases q with ⟨c, q1, q2, q3, q4⟩ | ⟨q1, q2⟩
      · exact .inl ⟨c, ⟨h1, h2, by dsimp only; omega, by dsimp only; omega⟩, q3, q4⟩
      · exact .inr ⟨fun c hk => q1 c (by have := hk.2.2.1; dsimp only at this; omega) (by have := hk.2.2.2; dsimp only at this; omega), q2⟩
    · refine ⟨x4, .inr ⟨fun c hk => absurd hk.2.1 h2, ?_⟩⟩
      simp [imm_pl, fl_counts, fl_spare, bLe, bLt, h1, h2]
  · refine ⟨x4, .inr ⟨fun c hk => absurd hk.1 h1, ?_⟩⟩
    simp [imm_pl, fl_counts, fl_spare, bLe, bLt, h1]
theorem fcF (hm : p.md = some md) (h : SpOk p.s) (hs : 0 ≤ p.spare ∧ ∀ c ∈ p.s.cs, p.spare < c) (ring : Int) : ∀ (m j : Nat) (x2 x3 x4 : Slot), ∃ y2 y3 y4 : Slot,
    (∃ c : Int × Int, Kept p.s.cs p.spare c ∧ freeB md c = true ∧ forL (.nm 2) (sFor (.nm 3) (iT (eTup [.ev (e2 true oSub (eVar 1) (eVar 2)), .ev (e2 true oAdd (eVar 1) (eVar 2))])) (sIf (eChain bLe bLt (eC (.int 0)) (eVar 3) (e1 oLen (eFld ft .n_counts (eVar 0)))) (sFor (.nm 4) (iR2 (e2 true oSub (e2 true oIdx (eFld ft .n_counts (eVar 0)) (eVar 3)) (eFld ft .n_spare (eVar 0))) (e2 true oIdx (eFld ft .n_counts (eVar 0)) (eVar 3))) (sIf (eAnd (e2 true (oDin true) (eTup [.ev (eUse 3), .ev (eUse 4)]) (eFld ft .n_bad (eVar 0))) (e2 true (oDin true) (eTup [.ev (eUse 3), .ev (eUse 4)]) (eFld ft .n_lies (eVar 0)))) (sRt (eTup [.ev (eUse 3), .ev (eUse 4)])) (sNil))) (sNil))) ((List.range' j m).map fun i : Nat => D.int (i : Int)) [some (2, p.d), some (0, .int ring), x2, x3, x4] = .rt (pureV (cellD c)) [some (2, p.d), some (0, .int ring), y2, y3, y4]) ∨
    ((∀ c : Int × Int, Kept p.s.cs p.spare c → j ≤ (c.1 - ring).natAbs → (c.1 - ring).natAbs < j + m → freeB md c = false) ∧ forL (.nm 2) (sFor (.nm 3) (iT (eTup [.ev (e2 true oSub (eVar 1) (eVar 2)), .ev (e2 true oAdd (eVar 1) (eVar 2))])) (sIf (eChain bLe bLt (eC (.int 0)) (eVar 3) (e1 oLen (eFld ft .n_counts (eVar 0)))) (sFor (.nm 4) (iR2 (e2 true oSub (e2 true oIdx (eFld ft .n_counts (eVar 0)) (eVar 3)) (eFld ft .n_spare (eVar 0))) (e2 true oIdx (eFld ft .n_counts (eVar 0)) (eVar 3))) (sIf (eAnd (e2 true (oDin true) (eTup [.ev (eUse 3), .ev (eUse 4)]) (eFld ft .n_bad (eVar 0))) (e2 true (oDin true) (eTup [.ev (eUse 3), .ev (eUse 4)]) (eFld ft .n_lies (eVar 0)))) (sRt (eTup [.ev (eUse 3), .ev (eUse 4)])) (sNil))) (sNil))) ((List.range' j m).map fun i : Nat => D.int (i : Int)) [some (2, p.d), some (0, .int ring), x2, x3, x4] = .nx [some (2, p.d), some (0, .int ring), y2, y3, y4])
  | 0, j, x2, x3, x4 => ⟨x2, x3, x4, .inr ⟨fun c _ h1 h2 => by omega, rfl⟩⟩
  | m + 1, j, x2, x3, x4 => by
    rw [List.range'_succ, List.map_cons]
    have b2 : (sFor (.nm 3) (iT (eTup [.ev (e2 true oSub (eVar 1) (eVar 2)), .ev (e2 true oAdd (eVar 1) (eVar 2))])) (sIf (eChain bLe bLt (eC (.int 0)) (eVar 3) (e1 oLen (eFld ft .n_counts (eVar 0)))) (sFor (.nm 4) (iR2 (e2 true oSub (e2 true oIdx (eFld ft .n_counts (eVar 0)) (eVar 3)) (eFld ft .n_spare (eVar 0))) (e2 true oIdx (eFld ft .n_counts (eVar 0)) (eVar 3))) (sIf (eAnd (e2 true (oDin true) (eTup [.ev (eUse 3), .ev (eUse 4)]) (eFld ft .n_bad (eVar 0))) (e2 true (oDin true) (eTup [.ev (eUse 3), .ev (eUse 4)]) (eFld ft .n_lies (eVar 0)))) (sRt (eTup [.ev (eUse 3), .ev (eUse 4)])) (sNil))) (sNil))) [some (2, p.d), some (0, .int ring), some (0, .int (j : Int)), x3, x4] = forL (.nm 3) (sIf (eChain bLe bLt (eC (.int 0)) (eVar 3) (e1 oLen (eFld ft .n_counts (eVar 0)))) (sFor (.nm 4) (iR2 (e2 true oSub (e2 true oIdx (eFld ft .n_counts (eVar 0)) (eVar 3)) (eFld ft .n_spare (eVar 0))) (e2 true oIdx (eFld ft .n_counts (eVar 0)) (eVar 3))) (sIf (eAnd (e2 true (oDin true) (eTup [.ev (eUse 3), .ev (eUse 4)]) (eFld ft .n_bad (eVar 0))) (e2 true (oDin true) (eTup [.ev (eUse 3), .ev (eUse 4)]) (eFld ft .n_lies (eVar 0)))) (sRt (eTup [.ev (eUse 3), .ev (eUse 4)])) (sNil))) (sNil)) [.int (ring - (j : Int)), .int (ring + (j : Int))] [some (2, p.d), some (0, .int ring), some (0, .int (j : Int)), x3, x4] := by
      simp only [run_for, run_iT, run_tup, evA_ev, evA_nil, run_e2, run_var]
      simp
    obtain ⟨z4, q⟩ := fcO hm h hs (.int ring) (some (0, .int (j : Int))) (ring - (j : Int)) x4
    rcases q with ⟨c, q1, q2, q3⟩ | ⟨q1, q2⟩
    · refine ⟨some (0, .int (j : Int)), some (0, .int (ring - (j : Int))), z4, .inl ⟨(ring - (j : Int), c), q1, q2, forL_rt (ρ1 := [some (2, p.d), some (0, .int ring), some (0, .int (j : Int)), x3, x4]) (by simp) ?_⟩⟩
      rw [b2]
      exact forL_rt (by simp) q3
    · obtain ⟨w4, q'⟩ := fcO hm h hs (.int ring) (some (0, .int (j : Int))) (ring + (j : Int)) z4
      rcases q' with ⟨c, q3, q4, q5⟩ | ⟨q3, q4⟩
      · refine ⟨some (0, .int (j : Int)), some (0, .int (ring + (j : Int))), w4, .inl ⟨(ring + (j : Int), c), q3, q4, forL_rt (ρ1 := [some (2, p.d), some (0, .int ring), some (0, .int (j : Int)), x3, x4]) (by simp) ?_⟩⟩
        rw [b2, forL_nx (by simp) q2]
        exact forL_rt (by simp) q5
      · obtain ⟨y2, y3, y4, ih⟩ := fcF hm h hs ring m (j + 1) (some (0, .int (j : Int))) (some (0, .int (ring + (j : Int)))) w4
        refine ⟨y2, y3, y4, ?_⟩
        have e : forL (.nm 2) (sFor (.nm 3) (iT (eTup [.ev (e2 true oSub (eVar 1) (eVar 2)), .ev (e2 true oAdd (eVar 1) (eVar 2))])) (sIf (eChain bLe bLt (eC (.int 0)) (eVar 3) (e1 oLen (eFld ft .n_counts (eVar 0)))) (sFor (.nm 4) (iR2 (e2 true oSub (e2 true oIdx (eFld ft .n_counts (eVar 0)) (eVar 3)) (eFld ft .n_spare (eVar 0))) (e2 true oIdx (eFld ft .n_counts (eVar 0)) (eVar 3))) (sIf (eAnd (e2 true (oDin true) (eTup [.ev (eUse 3), .ev (eUse 4)]) (eFld ft .n_bad (eVar 0))) (e2 true (oDin true) (eTup [.ev (eUse 3), .ev (eUse 4)]) (eFld ft .n_lies (eVar 0)))) (sRt (eTup [.ev (eUse 3), .ev (eUse 4)])) (sNil))) (sNil))) (.int (j : Int) :: (List.range' (j + 1) m).map fun i : Nat => D.int (i : Int)) [some (2, p.d), some (0, .int ring), x2, x3, x4] = forL (.nm 2) (sFor (.nm 3) (iT (eTup [.ev (e2 true oSub (eVar 1) (eVar 2)), .ev (e2 true oAdd (eVar 1) (eVar 2))])) (sIf (eChain bLe bLt (eC (.int 0)) (eVar 3) (e1 oLen (eFld ft .n_counts (eVar 0)))) (sFor (.nm 4) (iR2 (e2 true oSub (e2 true oIdx (eFld ft .n_counts (eVar 0)) (eVar 3)) (eFld ft .n_spare (eVar 0))) (e2 true oIdx (eFld ft .n_counts (eVar 0)) (eVar 3))) (sIf (eAnd (e2 true (oDin true) (eTup [.ev (eUse 3), .ev (eUse 4)]) (eFld ft .n_bad (eVar 0))) (e2 true (oDin true) (eTup [.ev (eUse 3), .ev (eUse 4)]) (eFld ft .n_lies (eVar 0)))) (sRt (eTup [.ev (eUse 3), .ev (eUse 4)])) (sNil))) (sNil))) ((List.range' (j + 1) m).map fun i : Nat => D.int (i : Int)) [some (2, p.d), some (0, .int ring), some (0, .int (j : Int)), some (0, .int (ring + (j : Int))), w4] := by
          refine forL_nx (ρ1 := [some (2, p.d), some (0, .int ring), some (0, .int (j : Int)), x3, x4]) (by simp) ?_
          rw [b2, forL_nx (by simp) q2, forL_nx (by simp) q4]
          rfl
        rw [e]
        rcases ih with ⟨c, i1, i2, i3⟩ | ⟨i1, i2⟩
        · exact .inl ⟨c, i1, i2, i3⟩
        · refine .inr ⟨fun c hk g1 g2 => ?_, i2⟩
          by_cases ej : (c.1 - ring).natAbs = j
          · have : c.1 = ring - (j : Int) ∨ c.1 = ring + (j : Int) := by omega
            obtain ⟨c1, c2⟩ := c
            dsimp only at this
            rcases this with rfl | rfl
            · exact q1 c2 hk
            · exact q3 c2 hk
          · exact i1 c hk (by omega) (by omega)
theorem free_cell_k (hm : p.md = some md) (h : SpOk p.s) (hs : 0 ≤ p.spare ∧ ∀ c ∈ p.s.cs, p.spare < c) {ring : Int} (h1 : 0 ≤ ring) (h2 : ring < p.s.cs.length) (hex : ∃ c, Kept p.s.cs p.spare c ∧ freeB md c = true) :
    ∃ c, Kept p.s.cs p.spare c ∧ freeB md c = true ∧ F_Mended_free_cell [⟨2, false, p.d⟩, pureV (.int ring)] = .ok (pureV (cellD c)) [some (2, p.d), none] := by
  obtain ⟨y2, y3, y4, q⟩ := fcF hm h hs ring p.s.cs.length 0 none none none
  rcases q with ⟨c, q1, q2, q3⟩ | ⟨q1, _⟩
  · refine ⟨c, q1, q2, ?_⟩
    have hb : RB (p.s.cs.length : Int) := by have := h.nb; unfold RB; omega
    unfold F_Mended_free_cell runFn c_Mended_free_cell
    simp only [enter]
    simp only [run_seq, run_for, run_iR1, run_e1, run_fld, run_var]
    simp [imm_pl, fl_counts, eq_true hb, rng0, -run_seq, q3]
  · exfalso
    obtain ⟨c, k1, k2⟩ := hex
    have := q1 c k1 (by omega) (by have := k1.1; have := k1.2.1; omega)
    rw [this] at k2
    cases k2
end
/-! there is one -/
theorem sub_len {α : Type} [DecidableEq α] : ∀ {l1 l2 : List α}, l1.Nodup → (∀ x ∈ l1, x ∈ l2) → l1.length ≤ l2.length
  | [], _, _, _ => by simp
  | a :: l1, l2, hn, h => by
    rw [List.nodup_cons] at hn
    have ha := h a List.mem_cons_self
    have ih := sub_len (l1 := l1) (l2 := l2.erase a) hn.2 fun x hx => (List.mem_erase_of_ne (fun e => hn.1 (by rw [← e]; exact hx))).mpr (h x (List.mem_cons_of_mem _ hx))
    rw [List.length_erase_of_mem ha] at ih
    have := List.length_pos_of_mem ha
    rw [List.length_cons]
    omega
def keptL (sp : Nat) : Int → List Int → List (Int × Int)
  | _, [] => []
  | r, c :: cs => (List.range sp).map (fun i : Nat => (r, c - (sp : Int) + (i : Int))) ++ keptL sp (r + 1) cs
theorem keptL_len {sp : Nat} : ∀ {cs : List Int} {r : Int}, (keptL sp r cs).length = sp * cs.length
  | [], _ => by simp [keptL]
  | c :: cs, r => by simp [keptL, keptL_len (cs := cs), Nat.mul_succ, Nat.add_comm]
theorem keptL_mem {sp : Nat} : ∀ {cs : List Int} {r : Int} {x : Int × Int}, x ∈ keptL sp r cs → r ≤ x.1 ∧ x.1 < r + cs.length ∧ getI cs (x.1 - r) - sp ≤ x.2 ∧ x.2 < getI cs (x.1 - r)
  | [], _, _, h => by simp [keptL] at h
  | c :: cs, r, x, h => by
    unfold keptL at h
    rw [List.length_cons]
    rcases List.mem_append.mp h with h | h
    · obtain ⟨i, hi, rfl⟩ := List.mem_map.mp h
      have := List.mem_range.mp hi
      dsimp only
      rw [Int.sub_self, getI_cons0]
      omega
    · obtain ⟨h1, h2, h3, h4⟩ := keptL_mem h
      have e : getI (c :: cs) (x.1 - r) = getI cs (x.1 - (r + 1)) := by
        have : x.1 - r = (((x.1 - (r + 1)).toNat + 1 : Nat) : Int) := by omega
        rw [this, getI_succ]
        congr 1
        omega
      rw [e]
      omega
theorem keptL_nodup {sp : Nat} : ∀ {cs : List Int} {r : Int}, (keptL sp r cs).Nodup
  | [], _ => List.nodup_nil
  | c :: cs, r => by
    unfold keptL
    rw [List.nodup_append]
    refine ⟨?_, keptL_nodup, fun a ha b hb e => ?_⟩
    · unfold List.Nodup
      rw [List.pairwise_map]
      exact List.nodup_range.imp fun hn e => by
        injection e with _ e
        omega
    · obtain ⟨i, hi, rfl⟩ := List.mem_map.mp ha
      have := (keptL_mem hb).1
      rw [← e] at this
      dsimp only at this
      omega
theorem filter_two {α : Type} (q : α → Bool) : ∀ l : List α, (l.filter q).length + (l.filter fun x => !q x).length = l.length
  | [] => rfl
  | a :: l => by
    have := filter_two q l
    cases h : q a <;> simp [h] <;> omega
theorem has_free {cs : List Int} {sp : Int} (hs : 0 ≤ sp) {bads cells : List (Int × Int)} (hl : bads.length ≤ sp.toNat * cs.length) (hn : cells.length < (bads.filter (numb cs sp)).length) : ∃ c, Kept cs sp c ∧ c ∉ bads ∧ c ∉ cells := by
  apply Classical.byContradiction
  intro hno
  have all : ∀ c ∈ keptL sp.toNat 0 cs, c ∈ (bads.filter fun x => !numb cs sp x) ++ cells := fun c hc => by
    obtain ⟨h1, h2, h3, h4⟩ := keptL_mem hc
    have hk : Kept cs sp c := ⟨h1, by omega, by rw [show c.1 - 0 = c.1 by omega] at h3; omega, by rw [show c.1 - 0 = c.1 by omega] at h4; exact h4⟩
    have nb : numb cs sp c = false := by
      unfold numb
      have := hk.2.2.1
      simp; omega
    by_cases c1 : c ∈ bads
    · exact List.mem_append_left _ (List.mem_filter.mpr ⟨c1, by simp [nb]⟩)
    · by_cases c2 : c ∈ cells
      · exact List.mem_append_right _ c2
      · exact absurd ⟨c, hk, c1, c2⟩ hno
  have h1 := sub_len keptL_nodup all
  rw [keptL_len, List.length_append] at h1
  have h2 := filter_two (numb cs sp) bads
  omega
end Pd
end
section
namespace Pd
open PySem L2
/-! a mended plate's making -/
def mdOf (bads : List (Int × Int)) (mv : List (Int × (Int × Int))) : Md := ⟨bads.map K2, bads.map fun _ => .bl true, mv.map fun x => .inl x.1, mv.map fun x => cellD x.2, mv.map fun x => K2 x.2, mv.map fun x => .int x.1⟩
def plM (s : Sp) (sp : Int) (bads : List (Int × Int)) (mv : List (Int × (Int × Int))) : Pl := ⟨s, sp, some (mdOf bads mv)⟩
def bad6 (s : Sp) (sp : Int) (bads : List (Int × Int)) : D := .ins .n_Mended [.n_counts, .n_lap, .n_skew, .n_swings, .n_spare, .n_bad] [.frl (s.cs.map .int), .int s.lap, .int s.skew, .frl (s.sw.map .int), .int sp, .dt (bads.map K2) (bads.map fun _ => .bl true)]
structure BadOk (s : Sp) (bads : List (Int × Int)) : Prop where
  n : bads.Nodup
  i : ∀ c ∈ bads, InPl s.cs c
  l : bads.length ≤ 1000
theorem big1000 {n : Nat} (h : n ≤ 1000) : n < BIG := Nat.lt_of_lt_of_le (Nat.lt_of_le_of_lt h (by decide : 1000 < 100000)) (by decide)
theorem badL {s : Sp} {sp : Int} (h : SpOk s) (s1 s2 s3 s4 s5 s6 : Slot) : ∀ (rest acc : List (Int × Int)) (x7 x8 : Slot), BadOk s (acc ++ rest) → ∃ y7 y8 : Slot, forL (.tp [7, 8]) (sSeq (sIf (eOr (eNot (eChain bLe bLt (eC (.int 0)) (eVar 7) (e1 oLen (eFld ft .n_counts (eVar 0))))) (eNot (eChain bLe bLt (eC (.int 0)) (eVar 8) (e2 true oIdx (eFld ft .n_counts (eVar 0)) (eVar 7))))) (sNever) (sNil)) (sSeq (sIf (e2 true (oDin false) (eTup [.ev (eUse 7), .ev (eUse 8)]) (eFld ft .n_bad (eVar 0))) (sNever) (sNil)) (sDpS true (lFld ft .n_bad (lVar 0)) (eTup [.ev (eUse 7), .ev (eUse 8)]) (eC (.bl true))))) (rest.map cellD) [some (2, bad6 s sp acc), s1, s2, s3, s4, s5, s6, x7, x8, none, none] =
    .nx [some (2, bad6 s sp (acc ++ rest)), s1, s2, s3, s4, s5, s6, y7, y8, none, none]
  | [], acc, x7, x8, _ => ⟨x7, x8, by simp [forL]⟩
  | (r, k) :: rest, acc, x7, x8, hb => by
    have hb' : BadOk s ((acc ++ [(r, k)]) ++ rest) := by rw [List.append_assoc]; exact hb
    obtain ⟨y7, y8, e⟩ := badL h s1 s2 s3 s4 s5 s6 rest (acc ++ [(r, k)]) (some (0, .int r)) (some (0, .int k)) hb'
    obtain ⟨i1, i2, i3, i4⟩ := hb.i (r, k) (List.mem_append_right _ List.mem_cons_self)
    dsimp only at i1 i2 i3 i4
    have hnew : (r, k) ∉ acc := fun q => by
      have := hb.n
      rw [List.nodup_append] at this
      exact this.2.2 _ q _ List.mem_cons_self rfl
    have hl := hb.l
    rw [List.length_append, List.length_cons] at hl
    have hK : K2 (r, k) ∉ acc.map K2 := fun q => hnew (K2_mem.mp q)
    have nd : (acc.map K2).Nodup := K2_nodup ((List.nodup_append.mp hb.n).1)
    have a1 : atI (s.cs.map D.int) r = some (.int (getI s.cs r)) := atI_int i1 i2
    have pk : putKs (K2 (r, k)) (acc.map K2) = (acc ++ [(r, k)]).map K2 := by rw [putKs_new hK, List.map_append]; rfl
    have pd : putKd (K2 (r, k)) (.bl true) (acc.map K2) (acc.map fun _ => .bl true) = (acc ++ [(r, k)]).map fun _ => D.bl true := by
      rw [putKd_new (by simp) hK, List.map_append]; rfl
    have lno : lookD (acc.map K2) (acc.map fun _ => D.bl true) (K2 (r, k)) = none := lookD_no hK
    have lb : acc.length < BIG := big1000 (by omega)
    rw [List.append_assoc] at e
    refine ⟨y7, y8, ?_⟩
    rw [List.map_cons, forL_nx (ρ1 := [some (2, bad6 s sp acc), s1, s2, s3, s4, s5, s6, some (0, .int r), some (0, .int k), none, none]) (by simp [cellD]) (ρ2 := [some (2, bad6 s sp (acc ++ [(r, k)])), s1, s2, s3, s4, s5, s6, some (0, .int r), some (0, .int k), none, none])]
    · exact e
    · unfold bad6
      simp [-List.map_append, oFld, lookN, part, immut, bLe, bLt, i1, i2, i3, i4, a1, oDin_t, lno, ixNm, putK_t, nd, lb, pk, pd]
/-! the bad numbers -/
theorem run_lck {vs : List Nat} {t : Tg} {i : Nat} {n : Nm} {fe : EF} {ρ : Vr} {C : Nm} {ns : List Nm} {ds es out : List D} {j : Nat} {ks : List (List Key)} (h0 : ρ[i]? = some (some (2, .ins C ns ds))) (h1 : ixNm n ns = some j) (h2 : ds[j]? = some (.dt ks es)) (h3 : n ∈ ft C) (h4 : i ∉ vs)
    (h : ∀ x, compL vs t (eC (.bl true)) fe (ks.map keyTD) [] (wipeV (ρ.set i (some (2, .ins C ns (ds.set j (.hole x))))) vs) = .ok ⟨1, false, .lst out⟩ (wipeV (ρ.set i (some (2, .ins C ns (ds.set j (.hole x))))) vs)) :
    eLcK ft vs t i n fe ρ = .ok ⟨1, false, .lst out⟩ (wipeV ρ vs) := by
  unfold eLcK
  have h' : ∀ x, lckRun vs t i C ns ds j ks fe ρ x = .ok ⟨1, false, .lst out⟩ (wipeV (ρ.set i (some (2, .ins C ns (ds.set j (.hole x))))) vs) := h
  have ho : lckOut (lckRun vs t i C ns ds j ks fe ρ .non) = some out := by rw [h' .non]; rfl
  simp only [h0, h1, h2, ho]
  exact if_pos ⟨h3, h4, h'⟩
theorem rc_plnum {m : Nat} {b : Bool} {ds : List D} : recv mt_plain_number_3 .n_plain_number ⟨m, b, .ins .n_Mended [.n_counts, .n_lap, .n_skew, .n_swings, .n_spare, .n_bad, .n_moved, .n_lies] ds⟩ = some (3, F_Plate_plain_number, []) := rfl
theorem bnL {s : Sp} {sp : Int} (h : SpOk s) {ds : List D} (L : PlLike s sp 2 (.ins .n_Mended [.n_counts, .n_lap, .n_skew, .n_swings, .n_spare, .n_bad, .n_moved, .n_lies] ds)) : ∀ (bads : List (Int × Int)) (acc : List D), (∀ c ∈ bads, InPl s.cs c) → acc.length + bads.length ≤ 1000 →
    compL [2, 3] (.tp [2, 3]) (eC (.bl true)) (eMeth (mt_plain_number_3) .n_plain_number (.io 0) [.ev (eUse 2), .ev (eUse 3)]) (bads.map cellD) acc [some (2, .ins .n_Mended [.n_counts, .n_lap, .n_skew, .n_swings, .n_spare, .n_bad, .n_moved, .n_lies] ds), none, none, none, none] =
    .ok ⟨1, false, .lst (acc ++ bads.map (pnumD s.cs sp))⟩ [some (2, .ins .n_Mended [.n_counts, .n_lap, .n_skew, .n_swings, .n_spare, .n_bad, .n_moved, .n_lies] ds), none, none, none, none]
  | [], acc, _, _ => by simp [compL]
  | (r, k) :: bads, acc, hb, hl => by
    rw [List.length_cons] at hl
    have ih := bnL h L bads (acc ++ [pnumD s.cs sp (r, k)]) (fun c hc => hb c (List.mem_cons_of_mem _ hc)) (by rw [List.length_append, List.length_singleton]; omega)
    have e := plain_number_k L h (hb (r, k) List.mem_cons_self)
    dsimp only at e
    have lb : acc.length < BIG := big1000 (by omega)
    rw [List.map_cons]
    unfold compL
    simp [cellD, run_methI, rc_plnum, e, lb, wipeV]
    simpa [wipeV] using ih
def numsOf (cs : List Int) (sp : Int) (bads : List (Int × Int)) : List Int := (bads.filter (numb cs sp)).map (pnum cs sp)
theorem bn2L {cs : List Int} {sp : Int} (s0 s1 s2 s3 : Slot) : ∀ (bads : List (Int × Int)) (acc : List Int), acc.length + bads.length ≤ 1000 →
    compL [4] (.nm 4) (e2 true oNotN (eVar 4) (eC (.non))) (eUse 4) (bads.map (pnumD cs sp)) (acc.map .int) [s0, s1, s2, s3, none] = .ok ⟨1, false, .lst ((acc ++ numsOf cs sp bads).map .int)⟩ [s0, s1, s2, s3, none]
  | [], acc, _ => by simp [compL, numsOf]
  | c :: bads, acc, hl => by
    rw [List.length_cons] at hl
    rw [List.map_cons]
    unfold compL
    have lb : acc.length < BIG := big1000 (by omega)
    cases hn : numb cs sp c with
    | true =>
      have ih := bn2L (cs := cs) (sp := sp) s0 s1 s2 s3 bads (acc ++ [pnum cs sp c]) (by rw [List.length_append, List.length_singleton]; omega)
      simp [pnumD, hn, lb, wipeV]
      simpa [numsOf, hn] using ih
    | false =>
      have ih := bn2L (cs := cs) (sp := sp) s0 s1 s2 s3 bads acc (by omega)
      simp [pnumD, hn, lb, wipeV]
      simpa [numsOf, hn] using ih
theorem bad_numbers_k {s : Sp} {sp : Int} (h : SpOk s) {bads : List (Int × Int)} (hb : BadOk s bads) : F_Mended_bad_numbers [⟨2, false, (plM s sp bads []).d⟩] = .ok ⟨1, false, .lst ((sortI (numsOf s.cs sp bads)).map .int)⟩ [some (2, (plM s sp bads []).d)] := by
  have e1 : eLcK ft [2, 3] (.tp [2, 3]) 0 .n_bad (eMeth (mt_plain_number_3) .n_plain_number (.io 0) [.ev (eUse 2), .ev (eUse 3)]) [some (2, (plM s sp bads []).d), none, none, none, none] = .ok ⟨1, false, .lst (bads.map (pnumD s.cs sp))⟩ [some (2, (plM s sp bads []).d), none, none, none, none] := by
    refine run_lck (ρ := [some (2, (plM s sp bads []).d), none, none, none, none]) (C := .n_Mended) (ns := [.n_counts, .n_lap, .n_skew, .n_swings, .n_spare, .n_bad, .n_moved, .n_lies]) (ds := [.frl (s.cs.map .int), .int s.lap, .int s.skew, .frl (s.sw.map .int), .int sp, .dt (bads.map K2) (bads.map fun _ => .bl true), .dk [] [], .dt [] []]) (j := 5) (ks := bads.map K2) (es := bads.map fun _ => .bl true) (out := bads.map (pnumD s.cs sp)) rfl rfl rfl mm6 (by decide) (fun x => ?_)
    have L : PlLike s sp 2 (.ins .n_Mended [.n_counts, .n_lap, .n_skew, .n_swings, .n_spare, .n_bad, .n_moved, .n_lies] [.frl (s.cs.map .int), .int s.lap, .int s.skew, .frl (s.sw.map .int), .int sp, .hole x, .dk [] [], .dt [] []]) :=
      ⟨rfl, fun b => by simp [oFld, lookN], fun b => by simp [oFld, lookN]⟩
    have := bnL h L bads [] hb.i (by have := hb.l; simp; omega)
    rw [show (bads.map K2).map keyTD = bads.map cellD by rw [List.map_map]; rfl]
    simpa [wipeV] using this
  have e2 := bn2L (cs := s.cs) (sp := sp) (some (2, (plM s sp bads []).d)) (some (0, .lst (bads.map (pnumD s.cs sp)))) none none bads [] (by have := hb.l; simp; omega)
  simp only [List.map_nil, List.nil_append] at e2
  have e3 : oSorted ⟨1, false, .lst ((numsOf s.cs sp bads).map .int)⟩ = some ⟨1, false, .lst ((sortI (numsOf s.cs sp bads)).map .int)⟩ := by simp [oSorted, lsOf]
  unfold F_Mended_bad_numbers runFn c_Mended_bad_numbers
  simp [enter, -List.map_map, e1, run_lc, wipeV, e2, e3]
/-! the main loop -/
structure MvOk (s : Sp) (sp : Int) (bads : List (Int × Int)) (mv : List (Int × (Int × Int))) : Prop where
  n1 : (mv.map fun x => x.1).Nodup
  n2 : (mv.map fun x => x.2).Nodup
  k : ∀ x ∈ mv, Kept s.cs sp x.2 ∧ x.2 ∉ bads
  b : ∀ x ∈ mv, ∃ c ∈ bads, numb s.cs sp c = true ∧ pnum s.cs sp c = x.1
theorem plain_cell_q {s : Sp} {sp : Int} (h : SpOk s) {p : Pl} (e1 : p.s = s) (e2 : p.spare = sp) {m : Nat} {n : Int} {c : Int × Int} (hp : pcell sp s.cs 0 n = some c) (h1 : 0 ≤ n) (h2 : n < ownSum sp s.cs) : F_Plate_plain_cell [⟨m, false, p.d⟩, pureV (.int n)] = .ok (pureV (cellD c)) [some (m, p.d), none] := by
  subst e1 e2
  obtain ⟨d, q1, q2⟩ := plain_cell_k h (m := m) h1 h2
  rw [hp] at q1
  cases q1
  exact q2
theorem rc_free {p : Pl} {md : Md} (hm : p.md = some md) {m : Nat} {b : Bool} : recv mt_free_cell_2 .n_free_cell ⟨m, b, p.d⟩ = some (2, F_Mended_free_cell, []) := by unfold Pl.d; rw [hm]; rfl
theorem mainL {s : Sp} {sp : Int} (h : SpOk s) (hs : 0 ≤ sp ∧ ∀ c ∈ s.cs, sp < c) {bads : List (Int × Int)} (hb : BadOk s bads) (hl : bads.length ≤ sp.toNat * s.cs.length) (s1 s2 s3 s4 s5 s6 s7 s8 : Slot) : ∀ (rest : List Int) (mv : List (Int × (Int × Int))) (x9 x10 : Slot), MvOk s sp bads mv →
    (mv.map (fun x => x.1) ++ rest).Nodup → (∀ n ∈ rest, ∃ c ∈ bads, numb s.cs sp c = true ∧ pnum s.cs sp c = n) → mv.length + rest.length ≤ (bads.filter (numb s.cs sp)).length →
    ∃ mv' y9 y10, forL (.nm 9) (sSeq (sAs 10 (eMeth (mt_free_cell_2) .n_free_cell (.io 0) [.ev (e2 true oIdx (eMeth (mt_plain_cell_2) .n_plain_cell (.io 0) [.ev (eUse 9)]) (eC (.int 0)))])) (sSeq (sIf (e2 true oIsN (eVar 10) (eC (.non))) (sNever) (sNil)) (sSeq (sDpS true (lFld ft .n_moved (lVar 0)) (eVar 9) (eUse 10)) (sDpS true (lFld ft .n_lies (lVar 0)) (eVar 10) (eUse 9))))) (rest.map .int) [some (2, (plM s sp bads mv).d), s1, s2, s3, s4, s5, s6, s7, s8, x9, x10] = .nx [some (2, (plM s sp bads mv').d), s1, s2, s3, s4, s5, s6, s7, s8, y9, y10] ∧ MvOk s sp bads mv' ∧ mv'.map (fun x => x.1) = mv.map (fun x => x.1) ++ rest
  | [], mv, x9, x10, hm, _, _, _ => ⟨mv, x9, x10, rfl, hm, by simp⟩
  | n :: rest, mv, x9, x10, hm, hn, hr, hc => by
    rw [List.length_cons] at hc
    obtain ⟨c0, c1, c2, c3⟩ := hr n List.mem_cons_self
    have hle : ∀ x ∈ s.cs, sp ≤ x := fun x hx => by have := hs.2 x hx; omega
    obtain ⟨g1, g2, g3⟩ := pcell_pnum hle (hb.i c0 c1) c2
    rw [c3] at g1 g2 g3
    have i0 := hb.i c0 c1
    have q1 := plain_cell_q h (p := plM s sp bads mv) rfl rfl (m := 2) g1 g2 g3
    obtain ⟨cf, f1, f2, f3⟩ := has_free (cs := s.cs) hs.1 hl (cells := mv.map fun x => x.2) (by rw [List.length_map]; omega)
    have fr : ∀ c, freeB (mdOf bads mv) c = true ↔ c ∉ bads ∧ c ∉ mv.map (fun x => x.2) := fun c => by
      have e1 : ∀ (q : Int × Int), (lookD (bads.map K2) (bads.map fun _ => D.bl true) (K2 q)).isSome = true ↔ q ∈ bads := fun q => by
        constructor
        · intro hh
          obtain ⟨d, hd⟩ := Option.isSome_iff_exists.mp hh
          obtain ⟨y, y1, y2, _⟩ := lookD_yes hd
          rw [← K2_inj y2]; exact y1
        · intro hh
          rw [lookD_mem (K2_nodup hb.n) hh]; rfl
      have e2 : (lookD (mv.map fun x => K2 x.2) (mv.map fun x => D.int x.1) (K2 c)).isSome = true ↔ c ∈ mv.map fun x => x.2 := by
        constructor
        · intro hh
          obtain ⟨d, hd⟩ := Option.isSome_iff_exists.mp hh
          obtain ⟨y, y1, y2, _⟩ := lookD_yes (kf := fun x : Int × (Int × Int) => K2 x.2) hd
          rw [← K2_inj y2]; exact List.mem_map_of_mem y1
        · intro hh
          obtain ⟨y, y1, y2⟩ := List.mem_map.mp hh
          have nd : (mv.map fun x => K2 x.2).Nodup := by
            have := K2_nodup hm.n2
            rwa [List.map_map] at this
          have y2' : y.2 = c := y2
          have this : lookD (mv.map fun x => K2 x.2) (mv.map fun x => D.int x.1) (K2 y.2) = some (.int y.1) := lookD_mem (kf := fun x : Int × (Int × Int) => K2 x.2) (vf := fun x => D.int x.1) nd y1
          rw [y2'] at this
          rw [this]; rfl
      unfold freeB
      rw [Bool.and_eq_true, Bool.not_eq_true', Bool.not_eq_true', ← Bool.not_eq_true, ← Bool.not_eq_true]
      exact and_congr (not_congr (e1 c)) (not_congr e2)
    obtain ⟨cc, k1, k2, k3⟩ := free_cell_k (p := plM s sp bads mv) rfl h hs (ring := c0.1) i0.1 i0.2.1 ⟨cf, f1, (fr cf).mpr ⟨f2, f3⟩⟩
    have k2' := (fr cc).mp k2
    have hnn : n ∉ mv.map fun x => x.1 := fun q => (List.nodup_append.mp hn).2.2 _ q _ List.mem_cons_self rfl
    have hm' : MvOk s sp bads (mv ++ [(n, cc)]) := by
      refine ⟨?_, ?_, ?_, ?_⟩
      · rw [List.map_append, List.nodup_append]
        exact ⟨hm.n1, by simp, fun a ha b hb' e => hnn (by simp at hb'; rw [← hb', ← e]; exact ha)⟩
      · rw [List.map_append, List.nodup_append]
        exact ⟨hm.n2, by simp, fun a ha b hb' e => k2'.2 (by simp at hb'; rw [← hb', ← e]; exact ha)⟩
      · intro x hx
        rcases List.mem_append.mp hx with hx | hx
        · exact hm.k x hx
        · rw [List.mem_singleton.mp hx]; exact ⟨k1, k2'.1⟩
      · intro x hx
        rcases List.mem_append.mp hx with hx | hx
        · exact hm.b x hx
        · rw [List.mem_singleton.mp hx]; exact ⟨c0, c1, c2, c3⟩
    obtain ⟨mv', y9, y10, e, r1, r2⟩ := mainL h hs hb hl s1 s2 s3 s4 s5 s6 s7 s8 rest (mv ++ [(n, cc)]) (some (0, .int n)) (some (0, cellD cc)) hm' (by rw [List.map_append, List.append_assoc]; exact hn) (fun x hx => hr x (List.mem_cons_of_mem _ hx)) (by rw [List.length_append, List.length_singleton]; omega)
    refine ⟨mv', y9, y10, ?_, r1, by rw [r2, List.map_append, List.append_assoc]; rfl⟩
    have kn : (Sum.inl n : Key) ∉ mv.map fun x => (Sum.inl x.1 : Key) := fun q => by
      obtain ⟨y, y1, y2⟩ := List.mem_map.mp q
      injection y2 with y2
      exact hnn (by rw [← y2]; exact List.mem_map_of_mem y1)
    have kc : K2 cc ∉ mv.map fun x => K2 x.2 := fun q => by
      obtain ⟨y, y1, y2⟩ := List.mem_map.mp q
      exact k2'.2 (by rw [← K2_inj y2]; exact List.mem_map_of_mem y1)
    have nd1 : (mv.map fun x => (Sum.inl x.1 : Key)).Nodup := by
      have := hm.n1
      unfold List.Nodup at this ⊢
      rw [List.pairwise_map] at this ⊢
      exact this.imp fun hne e => hne (by injection e)
    have nd2 : (mv.map fun x => K2 x.2).Nodup := by
      have := K2_nodup hm.n2
      rwa [List.map_map] at this
    have lb : mv.length < BIG := by
      have h1 := filter_two (numb s.cs sp) bads
      have := hb.l
      exact big1000 (by omega)
    have p1 : putKs (Sum.inl n : Key) (mv.map fun x => (Sum.inl x.1 : Key)) = (mv ++ [(n, cc)]).map fun x => (Sum.inl x.1 : Key) := by rw [putKs_new kn, List.map_append]; rfl
    have p2 : putKd (Sum.inl n : Key) (cellD cc) (mv.map fun x => (Sum.inl x.1 : Key)) (mv.map fun x => cellD x.2) = (mv ++ [(n, cc)]).map fun x => cellD x.2 := by rw [putKd_new (by simp) kn, List.map_append]; rfl
    have p3 : putKs (K2 cc) (mv.map fun x => K2 x.2) = (mv ++ [(n, cc)]).map fun x => K2 x.2 := by rw [putKs_new kc, List.map_append]; rfl
    have p4 : putKd (K2 cc) (.int n) (mv.map fun x => K2 x.2) (mv.map fun x => D.int x.1) = (mv ++ [(n, cc)]).map fun x => D.int x.1 := by rw [putKd_new (by simp) kc, List.map_append]; rfl
    rw [List.map_cons, forL_nx (ρ1 := [some (2, (plM s sp bads mv).d), s1, s2, s3, s4, s5, s6, s7, s8, some (0, .int n), x10]) (by simp) (ρ2 := [some (2, (plM s sp bads (mv ++ [(n, cc)])).d), s1, s2, s3, s4, s5, s6, s7, s8, some (0, .int n), some (0, cellD cc)])]
    · exact e
    · have i0' : ∀ a b : D, atI [a, b] 0 = some a := fun _ _ => rfl
      have r1' := rc_free (p := plM s sp bads mv) rfl (m := 2) (b := false)
      have r2' := rc_plain (p := plM s sp bads mv) (m := 2) (b := false)
      have ex : (sAs 10 (eMeth (mt_free_cell_2) .n_free_cell (.io 0) [.ev (e2 true oIdx (eMeth (mt_plain_cell_2) .n_plain_cell (.io 0) [.ev (eUse 9)]) (eC (.int 0)))])) [some (2, (plM s sp bads mv).d), s1, s2, s3, s4, s5, s6, s7, s8, some (0, .int n), x10] = .nx [some (2, (plM s sp bads mv).d), s1, s2, s3, s4, s5, s6, s7, s8, some (0, .int n), some (0, cellD cc)] := by
        have k3' := k3
        obtain ⟨ca, cb⟩ := c0
        simp only [cellD] at q1
        simp [run_methI, r1', r2', q1, i0', k3']
      rw [run_seq, ex]
      obtain ⟨ca, cb⟩ := cc
      simp only [cellD] at p2 ⊢
      unfold plM mdOf Pl.d
      simp [-List.map_append, cellD, oFld, lookN, part, immut, ixNm, putK_t, putK_i, nd1, nd2, lb, p1, p2, p3, p4]
end Pd
end
section
namespace Pd
open PySem L2
@[simp] theorem imm_dt {ks : List (List Key)} {ds : List D} : immut (.dt ks ds) = false := nr rfl
@[simp] theorem imm_dk {ks : List Key} {ds : List D} : immut (.dk ks ds) = false := nr rfl
theorem min_frl {s : Sp} (h : SpOk s) : ∃ mn, s.cs.min? = some mn ∧ mn ∈ s.cs := by
  cases e : s.cs.min? with
  | none => rw [List.min?_eq_none_iff] at e; have := h.nb; rw [e] at this; simp at this
  | some mn => exact ⟨mn, rfl, (List.min?_eq_some_iff.mp e).1⟩
theorem numsOf_nodup {s : Sp} {sp : Int} (hs : 0 ≤ sp ∧ ∀ c ∈ s.cs, sp < c) {bads : List (Int × Int)} (hb : BadOk s bads) : (numsOf s.cs sp bads).Nodup := by
  unfold numsOf List.Nodup
  rw [List.pairwise_map]
  have hn := hb.n.filter (numb s.cs sp)
  have : ∀ l : List (Int × Int), (∀ c ∈ l, c ∈ bads ∧ numb s.cs sp c = true) → l.Nodup → l.Pairwise fun a b => pnum s.cs sp a ≠ pnum s.cs sp b := fun l => by
    induction l with
    | nil => intro _ _; exact .nil
    | cons a l ih =>
      intro h1 h2
      rw [List.nodup_cons] at h2
      refine .cons (fun b hb' e => ?_) (ih (fun c hc => h1 c (List.mem_cons_of_mem _ hc)) h2.2)
      have ha := h1 a List.mem_cons_self
      have hb2 := h1 b (List.mem_cons_of_mem _ hb')
      have := pnum_inj (fun x hx => by have := hs.2 x hx; omega) (hb.i a ha.1) (hb.i b hb2.1) ha.2 hb2.2 e
      exact h2.1 (by rw [this]; exact hb')
  exact this _ (fun c hc => List.mem_filter.mp hc) hn
theorem mended_init_k {s : Sp} (h : SpFull s) {sp : Int} (hs : 0 ≤ sp ∧ ∀ c ∈ s.cs, sp < c) {bads : List (Int × Int)} (hb : BadOk s bads) (hl : bads.length ≤ sp.toNat * s.cs.length) {qz qw qb : Nat} :
    ∃ mv, MvOk s sp bads mv ∧ (∀ c ∈ bads, numb s.cs sp c = true → pnum s.cs sp c ∈ mv.map fun x => x.1) ∧ F_MendedUU_initUU [⟨2, false, .ins .n_Mended [] []⟩, ⟨qz, false, s.zones⟩, pureV (.int s.lap), pureV (.int s.skew), ⟨qw, false, .lst (s.sw.map .int)⟩, pureV (.int sp), ⟨qb, false, .lst (bads.map cellD)⟩] =
    .ok (pureV .non) [some (2, (plM s sp bads mv).d), none, none, none, none, none, none] := by
  have k0 : F_PlateUU_initUU [⟨2, false, .ins .n_Mended [] []⟩, pureV s.zones, pureV (.int s.lap), pureV (.int s.skew), pureV (.lst (s.sw.map .int))] = _ := plate_init_k (C := .n_Mended) (.inr rfl) h (m := 1)
  obtain ⟨mn, m1, m2⟩ := min_frl h.ok
  have hmn := hs.2 mn m2
  have om : oMin ⟨0, false, .frl (s.cs.map .int)⟩ = some (pureV (.int mn)) := by simp [oMin, lsOf, m1]
  obtain ⟨y7, y8, e1⟩ := badL (sp := sp) h.ok (some (0, s.zones)) (some (0, .int s.lap)) (some (0, .int s.skew)) (some (0, .lst (s.sw.map .int))) (some (0, .int sp)) (some (0, .lst (bads.map cellD))) bads [] none none hb
  simp only [List.nil_append] at e1
  have b2 := bad_numbers_k (sp := sp) h.ok hb
  have pm := sortI_perm (numsOf s.cs sp bads)
  have nd := pm.nodup_iff.mpr (numsOf_nodup hs hb)
  have hlen : (sortI (numsOf s.cs sp bads)).length = (bads.filter (numb s.cs sp)).length := by rw [pm.length_eq]; simp [numsOf]
  obtain ⟨mv, y9, y10, e2, g1, g2⟩ := mainL h.ok hs hb hl (some (0, s.zones)) (some (0, .int s.lap)) (some (0, .int s.skew)) (some (0, .lst (s.sw.map .int))) (some (0, .int sp)) (some (0, .lst (bads.map cellD))) y7 y8 (sortI (numsOf s.cs sp bads)) [] none none ⟨List.nodup_nil, List.nodup_nil, fun x hx => by (cases hx), fun x hx => by (cases hx)⟩ (by simpa using nd) (fun n hn => by
    obtain ⟨c, c1, c2⟩ := List.mem_map.mp (pm.mem_iff.mp hn)
    obtain ⟨c3, c4⟩ := List.mem_filter.mp c1
    exact ⟨c, c3, c4, c2⟩) (by simp; omega)
  refine ⟨mv, g1, fun c hc hn => ?_, ?_⟩
  · rw [g2, List.map_nil, List.nil_append]
    exact pm.mem_iff.mpr (List.mem_map_of_mem (List.mem_filter.mpr ⟨hc, hn⟩))
  have ed : (plM s sp bads []).d = .ins .n_Mended [.n_counts, .n_lap, .n_skew, .n_swings, .n_spare, .n_bad, .n_moved, .n_lies] [.frl (s.cs.map .int), .int s.lap, .int s.skew, .frl (s.sw.map .int), .int sp, .dt (bads.map K2) (bads.map fun _ => .bl true), .dk [] [], .dt [] []] := rfl
  rw [ed] at b2 e2
  have rb : ∀ ds m b, recv mt_bad_numbers_1 .n_bad_numbers ⟨m, b, .ins .n_Mended [.n_counts, .n_lap, .n_skew, .n_swings, .n_spare, .n_bad, .n_moved, .n_lies] ds⟩ = some (1, F_Mended_bad_numbers, []) := fun _ _ _ => rfl
  simp only [bad6, List.map_nil] at e1
  have hs1 : ¬ (sp < 0) := by omega
  have hs2 : ¬ (mn ≤ sp) := by omega
  have dn : eDtN = fun ρ => .ok ⟨1, false, .dt [] []⟩ ρ := rfl
  have kn : eDkN = fun ρ => .ok ⟨1, false, .dk [] []⟩ ρ := rfl
  unfold F_MendedUU_initUU runFn c_MendedUU_initUU
  simp [enter, k0, oFld, lookN, om, hs1, hs2, putNs, putDs, dn, kn, e1, run_methI, rb, b2, e2]
/-! the law's plate -/
structure PlFull (p : Pl) : Prop where
  ok : PlOk p
  full : SpFull p.s
  spb : 0 ≤ p.spare ∧ ∀ c ∈ p.s.cs, p.spare < c
  md : (p.md = none ∧ p.spare = 0) ∨ ∃ bads mv, p.md = some (mdOf bads mv) ∧ BadOk p.s bads ∧ MvOk p.s p.spare bads mv ∧ ∀ c ∈ bads, numb p.s.cs p.spare c = true → pnum p.s.cs p.spare c ∈ mv.map fun x => x.1
theorem plM_ok {s : Sp} (h : SpFull s) {sp : Int} (hs : 0 ≤ sp ∧ ∀ c ∈ s.cs, sp < c) {bads : List (Int × Int)} {mv : List (Int × (Int × Int))} (hm : MvOk s sp bads mv) : PlOk (plM s sp bads mv) := by
  refine ⟨h.ok, hs.1, fun m e n d hd => ?_⟩
  cases e
  obtain ⟨x, x1, x2, x3⟩ := lookD_yes (kf := fun x : Int × (Int × Int) => (Sum.inl x.1 : Key)) (vf := fun x => cellD x.2) hd
  refine ⟨x.2, x3.symm, ?_⟩
  obtain ⟨⟨k1, k2, k3, k4⟩, _⟩ := hm.k x x1
  have hc := h.ok.c k1 k2
  have hlt : sp < getI s.cs x.2.1 := by
    refine hs.2 _ ?_
    have : x.2.1.toNat < s.cs.length := by omega
    unfold getI
    rw [List.getD_eq_getElem?_getD, List.getElem?_eq_getElem this]
    exact List.getElem_mem this
  refine ⟨k1, k2, ?_, ?_⟩
  · show 0 ≤ x.2.2; omega
  · show x.2.2 ≤ 1000; omega
theorem bpL {s : Sp} (h : SpFull s) (X : List Int) (hX : X.length = 16) (d1 d3 : D) : ∀ (m j : Nat) (acc : List (Int × Int)) (x5 x6 : Slot), acc.Nodup → (∀ c ∈ acc, InPl s.cs c) → acc.length ≤ j → j + m ≤ 6 →
    ∃ (acc' : List (Int × Int)) (y5 y6 : Slot), forL (.nm 5) (sSeq (sAs 6 (e2 true oMod (e2 true oIdx (eVar 2) (e2 true oAdd (eC (.int 3)) (eVar 5))) (e1 oLen (e2 true oIdx (eVar 0) (eC (.int 1)))))) (sDpS true (lVar 4) (eTup [.ev (eUse 6), .ev (e2 true oMod (e2 true oIdx (eVar 2) (e2 true oAdd (eC (.int 9)) (eVar 5))) (e2 true oIdx (e2 true oIdx (eVar 0) (eC (.int 1))) (eVar 6)))]) (eC (.bl true)))) ((List.range' j m).map fun i : Nat => D.int (i : Int)) [some (0, s.d), some (0, d1), some (1, .lst (X.map .int)), some (0, d3), some (1, .dt (acc.map K2) (acc.map fun _ => .bl true)), x5, x6] =
    .nx [some (0, s.d), some (0, d1), some (1, .lst (X.map .int)), some (0, d3), some (1, .dt (acc'.map K2) (acc'.map fun _ => .bl true)), y5, y6] ∧ acc'.Nodup ∧ (∀ c ∈ acc', InPl s.cs c) ∧ acc'.length ≤ j + m
  | 0, j, acc, x5, x6, h1, h2, h3, _ => ⟨acc, x5, x6, rfl, h1, h2, h3⟩
  | m + 1, j, acc, x5, x6, h1, h2, h3, h4 => by
    have hn := h.ok.nb
    let r : Int := g X (3 + j) % s.cs.length
    have r1 : 0 ≤ r := Int.emod_nonneg _ (by omega)
    have r2 : r < s.cs.length := Int.emod_lt_of_pos _ (by omega)
    have hc := h.ok.c r1 r2
    let k : Int := g X (9 + j) % getI s.cs r
    have k1 : 0 ≤ k := Int.emod_nonneg _ (by omega)
    have k2 : k < getI s.cs r := Int.emod_lt_of_pos _ (by omega)
    have ex : ∃ acc2 : List (Int × Int), putKs (K2 (r, k)) (acc.map K2) = acc2.map K2 ∧ putKd (K2 (r, k)) (.bl true) (acc.map K2) (acc.map fun _ => .bl true) = (acc2.map fun _ => D.bl true) ∧ acc2.Nodup ∧ (∀ c ∈ acc2, InPl s.cs c) ∧ acc2.length ≤ j + 1 := by
      by_cases hmem : (r, k) ∈ acc
      · exact ⟨acc, putKs_old (K2_mem.mpr hmem), putKd_old (K2_mem.mpr hmem), h1, h2, by omega⟩
      · have hK : K2 (r, k) ∉ acc.map K2 := fun q => hmem (K2_mem.mp q)
        refine ⟨acc ++ [(r, k)], by rw [putKs_new hK, List.map_append]; rfl, by rw [putKd_new (by simp) hK, List.map_append]; rfl, ?_, ?_, by rw [List.length_append, List.length_singleton]; omega⟩
        · rw [List.nodup_append]
          exact ⟨h1, by simp, fun a ha b hb e => hmem (by rw [List.mem_singleton.mp hb] at e; rw [← e]; exact ha)⟩
        · intro c hc'
          rcases List.mem_append.mp hc' with q | q
          · exact h2 c q
          · rw [List.mem_singleton.mp q]; exact ⟨r1, r2, k1, k2⟩
    obtain ⟨acc2, p1, p2, p3, p4, p5⟩ := ex
    obtain ⟨acc', y5, y6, e, q1, q2, q3⟩ := bpL h X hX d1 d3 m (j + 1) acc2 (some (0, .int (j : Int))) (some (0, .int r)) p3 p4 p5 (by omega)
    refine ⟨acc', y5, y6, ?_, q1, q2, by omega⟩
    have nd : (acc.map K2).Nodup := K2_nodup h1
    have lb : acc.length < BIG := big1000 (by omega)
    rw [List.range'_succ, List.map_cons, forL_nx (ρ1 := [some (0, s.d), some (0, d1), some (1, .lst (X.map .int)), some (0, d3), some (1, .dt (acc.map K2) (acc.map fun _ => .bl true)), some (0, .int (j : Int)), x6]) (by simp) (ρ2 := [some (0, s.d), some (0, d1), some (1, .lst (X.map .int)), some (0, d3), some (1, .dt (acc2.map K2) (acc2.map fun _ => .bl true)), some (0, .int (j : Int)), some (0, .int r)])]
    · exact e
    · have a1 : atI (X.map D.int) (3 + (j : Int)) = some (.int (g X (3 + j))) := atI_g (k := 3 + j) (by omega) (by omega)
      have a2 : atI (X.map D.int) (9 + (j : Int)) = some (.int (g X (9 + j))) := atI_g (k := 9 + j) (by omega) (by omega)
      have i1 : atI [s.zones, .lst (s.cs.map .int), .int s.lap, .int s.skew, .lst (s.sw.map .int)] 1 = some (.lst (s.cs.map .int)) := rfl
      have m1 : oMod ⟨0, false, .int (g X (3 + j))⟩ ⟨0, false, .int (s.cs.length : Int)⟩ = some (pureV (.int r)) := oMod_i (by omega)
      have m2 : oMod ⟨0, false, .int (g X (9 + j))⟩ ⟨0, false, .int (getI s.cs r)⟩ = some (pureV (.int k)) := oMod_i (by omega)
      have a3 : atI (s.cs.map D.int) r = some (.int (getI s.cs r)) := atI_int r1 r2
      unfold Sp.d
      simp [a1, a2, i1, m1, m2, a3, putK_t, nd, lb, p1, p2]
theorem law_plate_k {s : Sp} (h : SpFull s) (cell : Int) : ∃ p : Pl, ∃ q : Nat, p.s = s ∧ PlFull p ∧ F__law_plate [pureV s.d, pureV (.int cell)] = .ok ⟨q, false, p.d⟩ [none, none] := by
  have hst := F_stream cell 16 (by decide)
  have hX : (stream cell 16).length = 16 := stream_len cell 16
  revert hst hX
  generalize stream cell 16 = X
  intro hst hX
  have hst' : F__law_stream [pureV (.int cell), pureV (.int 16)] = .ok ⟨1, false, .lst (X.map .int)⟩ [none, none] := hst
  have gi : ∀ k : Nat, k < 16 → atI (X.map D.int) (k : Int) = some (.int (g X k)) := fun k hk => atI_g rfl (by omega)
  have i0 : atI (X.map D.int) 0 = some (.int (g X 0)) := gi 0 (by decide)
  have i1 : atI (X.map D.int) 1 = some (.int (g X 1)) := gi 1 (by decide)
  have i2 : atI (X.map D.int) 2 = some (.int (g X 2)) := gi 2 (by decide)
  have t0 : atI [s.zones, .lst (s.cs.map .int), .int s.lap, .int s.skew, .lst (s.sw.map .int)] 0 = some s.zones := rfl
  have t1 : atI [s.zones, .lst (s.cs.map .int), .int s.lap, .int s.skew, .lst (s.sw.map .int)] 1 = some (.lst (s.cs.map .int)) := rfl
  have t2 : atI [s.zones, .lst (s.cs.map .int), .int s.lap, .int s.skew, .lst (s.sw.map .int)] 2 = some (.int s.lap) := rfl
  have t3 : atI [s.zones, .lst (s.cs.map .int), .int s.lap, .int s.skew, .lst (s.sw.map .int)] 3 = some (.int s.skew) := rfl
  have t4 : atI [s.zones, .lst (s.cs.map .int), .int s.lap, .int s.skew, .lst (s.sw.map .int)] 4 = some (.lst (s.sw.map .int)) := rfl
  obtain ⟨zs, ez, _, _, _, _⟩ := h.zs
  have ol0 : oList ⟨0, false, s.zones⟩ = some ⟨1, false, s.zones⟩ := by rw [ez]; simp [oList]
  have ol4 : oList ⟨0, false, .lst (s.sw.map .int)⟩ = some ⟨1, false, .lst (s.sw.map .int)⟩ := by simp [oList]
  have pos : ∀ c ∈ s.cs, 0 < c := fun c hc => by have := h.ok.cb c hc; omega
  by_cases h0 : 0 < g X 0 % 4
  · refine ⟨⟨s, 0, none⟩, 1, rfl, ⟨⟨h.ok, Int.le_refl _, fun m e => by cases e⟩, h, ⟨Int.le_refl _, pos⟩, .inl ⟨rfl, rfl⟩⟩, ?_⟩
    have k0 : F_PlateUU_initUU [⟨1, false, .ins .n_Plate [] []⟩, ⟨1, false, s.zones⟩, pureV (.int s.lap), pureV (.int s.skew), ⟨1, false, .lst (s.sw.map .int)⟩] = _ := plate_init_k (C := .n_Plate) (.inl rfl) h (m := 0)
    unfold F__law_plate runFn c__law_plate Sp.d
    simp [enter, hst', i0, h0, t0, t2, t3, t4, ol0, ol4, k0, Pl.d]
  · obtain ⟨mn, m1, m2⟩ := min_frl h.ok
    have mb := h.ok.cb mn m2
    let sp : Int := g X 1 % mn
    have s0 : 0 ≤ sp := Int.emod_nonneg _ (by omega)
    have s1 : sp < mn := Int.emod_lt_of_pos _ (by omega)
    have hs : 0 ≤ sp ∧ ∀ c ∈ s.cs, sp < c := ⟨s0, fun c hc => by
      have := (List.min?_eq_some_iff.mp m1).2 c hc
      omega⟩
    have hn := h.ok.nb
    have om : oMin ⟨0, false, .lst (s.cs.map .int)⟩ = some (pureV (.int mn)) := by simp [oMin, lsOf, m1]
    have q1 : oMod ⟨0, false, .int (g X 1)⟩ ⟨0, false, .int mn⟩ = some (pureV (.int sp)) := oMod_i (by omega)
    have q2 : oMul ⟨0, false, .int sp⟩ ⟨0, false, .int (s.cs.length : Int)⟩ = some (pureV (.int (sp * (s.cs.length : Int)))) := oMul_r (by omega)
    have p0 : 0 ≤ sp * (s.cs.length : Int) := Int.mul_nonneg s0 (by omega)
    obtain ⟨mi, q3, mi0⟩ : ∃ mi : Int, oMin2 ⟨0, false, .int (g X 2 % 7)⟩ ⟨0, false, .int (sp * (s.cs.length : Int))⟩ = some (pureV (.int mi)) ∧ 0 ≤ mi ∧ mi ≤ 6 ∧ mi ≤ sp * (s.cs.length : Int) := by
      by_cases c : sp * (s.cs.length : Int) < g X 2 % 7
      · exact ⟨sp * (s.cs.length : Int), by simp only [oMin2, if_pos c], by omega, by omega, by omega⟩
      · exact ⟨g X 2 % 7, by simp only [oMin2, if_neg c], by omega, by omega, by omega⟩
    have bmi : RB mi := by unfold RB; omega
    obtain ⟨bads, y5, y6, e1, g1, g2, g3⟩ := bpL h X hX (.int cell) (.int sp) mi.toNat 0 [] none none List.nodup_nil (fun c hc => by cases hc) (Nat.le_refl 0) (by omega)
    have hl : bads.length ≤ sp.toNat * s.cs.length := by
      have : ((sp.toNat * s.cs.length : Nat) : Int) = sp * (s.cs.length : Int) := by
        rw [Int.natCast_mul, Int.toNat_of_nonneg s0]
      omega
    have hb : BadOk s bads := ⟨g1, g2, by omega⟩
    obtain ⟨mv, v1, v2, v3⟩ := mended_init_k h hs hb hl (qz := 1) (qw := 1) (qb := 1)
    refine ⟨plM s sp bads mv, 2, rfl, ⟨plM_ok h hs v1, h, hs, .inr ⟨bads, mv, rfl, hb, v1, v2⟩⟩, ?_⟩
    have olt : oListT ⟨1, true, .dt (bads.map K2) (bads.map fun _ => .bl true)⟩ = some ⟨1, false, .lst (bads.map cellD)⟩ := by
      unfold oListT
      dsimp only
      rw [List.map_map]
      rfl
    have dn : eDtN = fun ρ => .ok ⟨1, false, .dt [] []⟩ ρ := rfl
    have h0' : ¬ (0 < g X 0 % 4) := h0
    simp only [Sp.d, List.map_nil] at e1
    unfold F__law_plate runFn c__law_plate Sp.d
    simp [-List.map_map, enter, hst', i0, i1, i2, h0', t0, t1, t2, t3, t4, om, q1, q2, q3, eq_true bmi, rng0, dn, e1, ol0, ol4, olt, v3]
end Pd
end
section
namespace Pd
open PySem L2
/-! the number that lies at a cell -/
def numberD (p : Pl) (c : Int × Int) : D := match p.md with
  | none => pnumD p.s.cs p.spare c
  | some md => if (lookD md.bK md.bD (K2 c)).isSome = true then .non else match pnumD p.s.cs p.spare c with
    | .non => (lookD md.lK md.lD (K2 c)).getD .non
    | d => d
theorem pnumD_or (cs : List Int) (sp : Int) (c : Int × Int) : pnumD cs sp c = .non ∧ numb cs sp c = false ∨ pnumD cs sp c = .int (pnum cs sp c) ∧ numb cs sp c = true := by
  unfold pnumD
  cases h : numb cs sp c with
  | true => exact .inr ⟨by simp, rfl⟩
  | false => exact .inl ⟨by simp, rfl⟩
theorem number_of_k {p : Pl} (h : PlFull p) {c : Int × Int} (hc : InPl p.s.cs c) : (∃ cl, recv mt_number_of_3 .n_number_of ⟨0, false, p.d⟩ = some (3, cl, []) ∧ cl [⟨0, false, p.d⟩, pureV (.int c.1), pureV (.int c.2)] = .ok (pureV (numberD p c)) [some (0, p.d), none, none]) ∧
    (numberD p c = .non ∨ ∃ n, numberD p c = .int n ∧ 0 ≤ n ∧ n < totalI p ∧ cellOf p n = cellD c) := by
  have hle : ∀ x ∈ p.s.cs, p.spare ≤ x := fun x hx => by have := h.spb.2 x hx; omega
  have e0 := plain_number_k (plike p 0) h.full.ok hc
  have rp : recv mt_plain_number_3 .n_plain_number ⟨0, false, p.d⟩ = some (3, F_Plate_plain_number, []) := by unfold Pl.d; cases p.md <;> rfl
  rcases h.md with ⟨hm, hz⟩ | ⟨bads, mv, hm, hb, hv, hin⟩
  · constructor
    · refine ⟨F_Plate_number_of, by unfold Pl.d; rw [hm]; rfl, ?_⟩
      unfold F_Plate_number_of runFn c_Plate_number_of
      simp [enter, run_methI, rp, e0, numberD, hm]
    · unfold numberD
      rw [hm]
      dsimp only
      rcases pnumD_or p.s.cs p.spare c with ⟨q, _⟩ | ⟨q, q2⟩
      · exact .inl q
      · obtain ⟨g1, g2, g3⟩ := pcell_pnum hle hc q2
        refine .inr ⟨_, q, g2, by rw [own_total] at g3; exact g3, ?_⟩
        unfold cellOf
        rw [hm]
        dsimp only
        rw [g1]
        rfl
  · have ib : ∀ q : Int × Int, (lookD (bads.map K2) (bads.map fun _ => D.bl true) (K2 q)).isSome = true ↔ q ∈ bads := fun q => by
      constructor
      · intro hh
        obtain ⟨d, hd⟩ := Option.isSome_iff_exists.mp hh
        obtain ⟨y, y1, y2, _⟩ := lookD_yes hd
        rw [← K2_inj y2]; exact y1
      · intro hh
        rw [lookD_mem (K2_nodup hb.n) hh]; rfl
    have hlies : lookD (mdOf bads mv).lK (mdOf bads mv).lD (K2 c) = none ∨ ∃ x ∈ mv, x.2 = c ∧ lookD (mdOf bads mv).lK (mdOf bads mv).lD (K2 c) = some (.int x.1) := by
      cases e : lookD (mdOf bads mv).lK (mdOf bads mv).lD (K2 c) with
      | none => exact .inl rfl
      | some d =>
        obtain ⟨x, x1, x2, x3⟩ := lookD_yes (kf := fun x : Int × (Int × Int) => K2 x.2) (vf := fun x => D.int x.1) e
        exact .inr ⟨x, x1, K2_inj x2, by rw [← x3]⟩
    constructor
    · refine ⟨F_Mended_number_of, by unfold Pl.d; rw [hm]; rfl, ?_⟩
      obtain ⟨r, k⟩ := c
      dsimp only at e0
      unfold F_Mended_number_of runFn c_Mended_number_of numberD
      rw [hm]
      dsimp only
      by_cases cb : (lookD (mdOf bads mv).bK (mdOf bads mv).bD (K2 (r, k))).isSome = true
      · simp [enter, run_methI, rp, e0, fl_bad0 hm, oDin_t, cb]
      · have cb' : (lookD (mdOf bads mv).bK (mdOf bads mv).bD (K2 (r, k))).isSome = false := by simpa using cb
        rcases pnumD_or p.s.cs p.spare (r, k) with ⟨q, _⟩ | ⟨q, q2⟩
        · rw [q] at e0 ⊢
          have dg : ∀ ks ds, dGet (.dt ks ds) (.tup [.int r, .int k]) = some (lookD ks ds (K2 (r, k))) := fun _ _ => rfl
          rcases hlies with hl | ⟨x, x1, x2, hl⟩
          · simp [enter, run_methI, rp, e0, fl_bad0 hm, fl_lies0 hm, oDin_t, cb', eGet1, isDct, oGet1, dg, hl]
          · simp [enter, run_methI, rp, e0, fl_bad0 hm, fl_lies0 hm, oDin_t, cb', eGet1, isDct, oGet1, dg, hl]
        · rw [q] at e0 ⊢
          simp [enter, run_methI, rp, e0, fl_bad0 hm, fl_lies0 hm, oDin_t, cb']
    · unfold numberD
      rw [hm]
      dsimp only
      by_cases cb : (lookD (mdOf bads mv).bK (mdOf bads mv).bD (K2 c)).isSome = true
      · exact .inl (if_pos cb)
      · rw [if_neg cb]
        have hnb : c ∉ bads := fun q => cb ((ib c).mpr q)
        rcases pnumD_or p.s.cs p.spare c with ⟨q, _⟩ | ⟨q, q2⟩
        · rw [q]
          dsimp only
          rcases hlies with hl | ⟨x, x1, x2, hl⟩
          · rw [hl]; exact .inl rfl
          · rw [hl]
            obtain ⟨c0, c1, c2, c3⟩ := hv.b x x1
            obtain ⟨g1, g2, g3⟩ := pcell_pnum hle (hb.i c0 c1) c2
            rw [c3] at g2 g3
            refine .inr ⟨x.1, rfl, g2, by rw [own_total] at g3; exact g3, ?_⟩
            have nd1 : (mv.map fun x => (Sum.inl x.1 : Key)).Nodup := by
              have := hv.n1
              unfold List.Nodup at this ⊢
              rw [List.pairwise_map] at this ⊢
              exact this.imp fun hne e => hne (by injection e)
            have := lookD_mem (kf := fun x : Int × (Int × Int) => (Sum.inl x.1 : Key)) (vf := fun x => cellD x.2) nd1 x1
            unfold cellOf
            rw [hm]
            dsimp only
            rw [show lookD (mdOf bads mv).mK (mdOf bads mv).mD (Sum.inl x.1) = some (cellD x.2) from this]
            dsimp only
            rw [x2]
        · rw [q]
          dsimp only
          obtain ⟨g1, g2, g3⟩ := pcell_pnum hle hc q2
          refine .inr ⟨_, rfl, g2, by rw [own_total] at g3; exact g3, ?_⟩
          unfold cellOf
          rw [hm]
          dsimp only
          cases e : lookD (mdOf bads mv).mK (mdOf bads mv).mD (Sum.inl (pnum p.s.cs p.spare c)) with
          | none => dsimp only; rw [g1]; rfl
          | some d =>
            exfalso
            obtain ⟨x, x1, x2, x3⟩ := lookD_yes (kf := fun x : Int × (Int × Int) => (Sum.inl x.1 : Key)) (vf := fun x => cellD x.2) e
            injection x2 with x2
            obtain ⟨c0, c1, c2, c3⟩ := hv.b x x1
            have := pnum_inj hle (hb.i c0 c1) hc c2 q2 (by rw [c3, x2])
            exact hnb (by rw [← this]; exact c1)
/-! beside -/
theorem own_le {sp : Int} (hs : 0 ≤ sp) : ∀ {cs : List Int}, (∀ c ∈ cs, c ≤ 8) → ownSum sp cs ≤ 8 * cs.length
  | [], _ => by simp [ownSum]
  | c :: cs, h => by
    unfold ownSum
    have h1 := h c List.mem_cons_self
    have h2 := own_le hs (cs := cs) fun x hx => h x (List.mem_cons_of_mem _ hx)
    rw [List.length_cons]
    omega
theorem total_le {p : Pl} (h : PlFull p) : totalI p ≤ 72 := by
  have h1 := own_le h.spb.1 h.full.c8
  rw [own_total] at h1
  have := h.full.n9
  unfold totalI
  omega
theorem own_ge {sp : Int} : ∀ {cs : List Int}, (∀ c ∈ cs, sp < c) → (cs.length : Int) ≤ ownSum sp cs
  | [], _ => by simp [ownSum]
  | c :: cs, h => by
    unfold ownSum
    have h1 := h c List.mem_cons_self
    have h2 := own_ge (cs := cs) fun x hx => h x (List.mem_cons_of_mem _ hx)
    rw [List.length_cons]
    omega
theorem total_ge {p : Pl} (h : PlFull p) : 2 ≤ totalI p := by
  have h1 := own_ge h.spb.2
  rw [own_total] at h1
  have := h.full.ok.nb
  unfold totalI
  omega
structure KsOk (p : Pl) (ks : List Kn) : Prop where
  ok : ∀ k ∈ ks, KnOk p k
  up : (ks.map Kn.num).Pairwise (· < ·)
  nb : ∀ k ∈ ks, 0 ≤ k.num ∧ k.num ≤ 40
  len : ks.length ≤ 7
  si : ∀ k ∈ ks, k.cells.length ≤ 2
def numI : D → Int
  | .int n => n
  | _ => 0
def besK (p : Pl) (ring b : Int) (j : Nat) (q : Int) : Kn := ⟨2 * j + b, numI (numberD p (ring, q)), 1, false, [], .non, [(ring, q)]⟩
def besL (p : Pl) (ring b : Int) : Nat → List Int → List Kn
  | _, [] => []
  | j, q :: qs => besK p ring b j q :: besL p ring b (j + 1) qs
theorem besL_snoc {p : Pl} {ring b : Int} : ∀ {qs : List Int} {j : Nat} {q : Int}, besL p ring b j (qs ++ [q]) = besL p ring b j qs ++ [besK p ring b (j + qs.length) q]
  | [], j, q => rfl
  | x :: qs, j, q => by
    simp only [List.cons_append, besL]
    rw [besL_snoc (qs := qs)]
    simp only [List.length_cons]
    rw [show j + 1 + qs.length = j + (qs.length + 1) by omega]
theorem besL_len {p : Pl} {ring b : Int} : ∀ {qs : List Int} {j : Nat}, (besL p ring b j qs).length = qs.length
  | [], _ => rfl
  | _ :: qs, j => by simp [besL, besL_len (qs := qs)]
theorem besL_mem {p : Pl} {ring b : Int} : ∀ {qs : List Int} {j : Nat} {k : Kn}, k ∈ besL p ring b j qs → ∃ i q, q ∈ qs ∧ j ≤ i ∧ i < j + qs.length ∧ k = besK p ring b i q
  | [], _, _, h => by cases h
  | x :: qs, j, k, h => by
    rcases List.mem_cons.mp h with rfl | h
    · exact ⟨j, x, List.mem_cons_self, Nat.le_refl _, by rw [List.length_cons]; omega, rfl⟩
    · obtain ⟨i, q, h1, h2, h3, h4⟩ := besL_mem h
      exact ⟨i, q, List.mem_cons_of_mem _ h1, by omega, by rw [List.length_cons]; omega, h4⟩
theorem besL_up {p : Pl} {ring b : Int} : ∀ {qs : List Int} {j : Nat}, ((besL p ring b j qs).map Kn.num).Pairwise (· < ·)
  | [], _ => .nil
  | x :: qs, j => by
    unfold besL
    rw [List.map_cons]
    refine .cons (fun n hn => ?_) besL_up
    obtain ⟨k, hk, rfl⟩ := List.mem_map.mp hn
    obtain ⟨i, q, _, h2, _, rfl⟩ := besL_mem hk
    show 2 * (j : Int) + b < 2 * (i : Int) + b
    omega
theorem bes_ok {p : Pl} (h : PlFull p) {ring b : Int} (hr : 0 ≤ ring ∧ ring < p.s.cs.length) (hb : 0 ≤ b ∧ b ≤ 1) {qs : List Int} (hl : qs.length ≤ 7) (hq : ∀ q ∈ qs, (0 ≤ q ∧ q < getI p.s.cs ring) ∧ numberD p (ring, q) ≠ .non) : KsOk p (besL p ring b 0 qs) := by
  refine ⟨fun k hk => ?_, besL_up, fun k hk => ?_, by rw [besL_len]; exact hl, fun k hk => ?_⟩
  · obtain ⟨i, q, h1, h2, h3, rfl⟩ := besL_mem hk
    obtain ⟨⟨q1, q2⟩, q3⟩ := hq q h1
    obtain ⟨_, hn⟩ := number_of_k h (c := (ring, q)) ⟨hr.1, hr.2, q1, q2⟩
    rcases hn with hn | ⟨n, n1, n2, n3, n4⟩
    · exact absurd hn q3
    · have hc := h.full.ok.c hr.1 hr.2
      have ht := total_le h
      refine ⟨?_, ?_, ?_, ⟨Nat.le_refl 1, (by decide : (1 : Nat) ≤ 16)⟩, trivial, .inl rfl, ?_, ?_⟩
      · show 0 ≤ numI (numberD p (ring, q)); rw [n1]; exact n2
      · show numI (numberD p (ring, q)) + ((1 : Nat) : Int) ≤ totalI p; rw [n1]; show n + 1 ≤ _; omega
      · show numI (numberD p (ring, q)) ≤ 1000000 - 1; rw [n1]; show n ≤ _; omega
      · show [cellD (ring, q)] = cellsOf p (numI (numberD p (ring, q))) 1
        rw [n1]
        show _ = [cellOf p (n + ((0 : Nat) : Int))]
        rw [show n + ((0 : Nat) : Int) = n by omega, n4]
      · intro c hc'
        rw [List.mem_singleton.mp hc']
        exact ⟨hr.1, hr.2, q1, by show q ≤ 1000; omega⟩
  · obtain ⟨i, q, h1, h2, h3, rfl⟩ := besL_mem hk
    show 0 ≤ 2 * (i : Int) + b ∧ 2 * (i : Int) + b ≤ 40
    omega
  · obtain ⟨i, q, h1, h2, h3, rfl⟩ := besL_mem hk
    exact (by decide : (1 : Nat) ≤ 2)
theorem besLoop {p : Pl} (h : PlFull p) {ring beat cell : Int} (hr : 0 ≤ ring ∧ ring < p.s.cs.length) (qs : List Int) (hl : qs.length ≤ 7) (hq : ∀ q ∈ qs, (0 ≤ q ∧ q < getI p.s.cs ring) ∧ numberD p (ring, q) ≠ .non) (d1 d5 : Slot) (n4 : Nat) : ∀ (rest don : List Int) (x7 x8 : Slot), don ++ rest = qs →
    ∃ y7 y8 : Slot, forL (.nm 7) (sSeq (sAs 8 (eMeth (mt_number_of_3) .n_number_of (.io 0) [.ev (e2 true oIdx (eVar 2) (eC (.int 0))), .ev (e2 true oIdx (eVar 4) (eVar 7))])) (sApp true (lVar 6) (eTup [.ev (e2 true oAdd (e2 true oMul (eC (.int 2)) (eVar 7)) (e2 true oMod (e2 true oDiv (eVar 3) (eC (.int 16))) (eC (.int 2)))), .ev (eUse 8), .ev (eC (.int 1)), .ev (eC (.bl false)), .ev (eTup []), .ev (eC (.non)), .ev (eLst [.ev (eTup [.ev (e2 true oIdx (eVar 2) (eC (.int 0))), .ev (e2 true oIdx (eVar 4) (eVar 7))])])]))) ((List.range' don.length rest.length).map fun i : Nat => D.int (i : Int)) [some (0, p.d), d1, some (0, .tup [.int ring, .int beat]), some (0, .int cell), some (n4, .lst (qs.map .int)), d5, some (1, .lst ((besL p ring (cell / 16 % 2) 0 don).map Kn.d)), x7, x8] =
    .nx [some (0, p.d), d1, some (0, .tup [.int ring, .int beat]), some (0, .int cell), some (n4, .lst (qs.map .int)), d5, some (1, .lst ((besL p ring (cell / 16 % 2) 0 (don ++ rest)).map Kn.d)), y7, y8]
  | [], don, x7, x8, e => ⟨x7, x8, by simp [forL]⟩
  | q :: rest, don, x7, x8, e => by
    have hmem : q ∈ qs := by rw [← e]; exact List.mem_append_right _ List.mem_cons_self
    obtain ⟨⟨q1, q2⟩, q3⟩ := hq q hmem
    obtain ⟨⟨cl, r1, r2⟩, hn⟩ := number_of_k h (c := (ring, q)) ⟨hr.1, hr.2, q1, q2⟩
    rcases hn with hn | ⟨n, n1, n2, n3, n4'⟩
    · exact absurd hn q3
    have hdl : don.length < qs.length := by rw [← e, List.length_append, List.length_cons]; omega
    obtain ⟨y7, y8, ih⟩ := besLoop h (beat := beat) hr qs hl hq d1 d5 n4 rest (don ++ [q]) (some (0, .int (don.length : Int))) (some (0, .int n)) (by rw [List.append_assoc]; exact e)
    refine ⟨y7, y8, ?_⟩
    rw [List.length_cons, List.range'_succ, List.map_cons, forL_nx (ρ1 := [some (0, p.d), d1, some (0, .tup [.int ring, .int beat]), some (0, .int cell), some (n4, .lst (qs.map .int)), d5, some (1, .lst ((besL p ring (cell / 16 % 2) 0 don).map Kn.d)), some (0, .int (don.length : Int)), x8]) (by simp)
      (ρ2 := [some (0, p.d), d1, some (0, .tup [.int ring, .int beat]), some (0, .int cell), some (n4, .lst (qs.map .int)), d5, some (1, .lst ((besL p ring (cell / 16 % 2) 0 (don ++ [q])).map Kn.d)), some (0, .int (don.length : Int)), some (0, .int n)])]
    · rw [List.append_assoc] at ih
      rw [List.length_append, List.length_singleton] at ih
      exact ih
    · have gq : g qs don.length = q := by
        unfold g
        rw [← e, List.getD_eq_getElem?_getD, List.getElem?_append_right (Nat.le_refl _), Nat.sub_self]
        rfl
      have a4 : atI (qs.map D.int) (don.length : Int) = some (.int q) := by rw [atI_g (k := don.length) rfl hdl, gq]
      have t0 : ∀ a b : D, atI [a, b] 0 = some a := fun _ _ => rfl
      have m2 : oMul ⟨0, false, .int 2⟩ ⟨0, false, .int (don.length : Int)⟩ = some (pureV (.int (2 * (don.length : Int)))) := oMul_l (by decide)
      have lb : (besL p ring (cell / 16 % 2) 0 don).length < BIG := by rw [besL_len]; exact big1000 (by omega)
      have es : besL p ring (cell / 16 % 2) 0 (don ++ [q]) = besL p ring (cell / 16 % 2) 0 don ++ [besK p ring (cell / 16 % 2) don.length q] := by rw [besL_snoc, Nat.zero_add]
      have ek : (besK p ring (cell / 16 % 2) don.length q).d = .tup [.int (2 * (don.length : Int) + cell / 16 % 2), .int n, .int 1, .bl false, .tup [], .non, .lst [.tup [.int ring, .int q]]] := by
        unfold besK Kn.d
        rw [n1]
        rfl
      rw [n1] at r2
      rw [es, List.map_append, List.map_cons, List.map_nil, ek]
      by_cases hn4 : n4 = 0
      · subst hn4
        simp [t0, a4, run_methI, r1, r2, m2, lb]
      · have h4 : ¬ (n4 ≤ 1 ∧ False) := by simp
        simp [hn4, t0, a4, part, immut, run_methI, r1, r2, m2, lb]
end Pd
end
section
namespace Pd
open PySem L2
theorem rng_flt (n : Nat) (q : D → Bool) (q' : Int → Bool) (e : ∀ i, q (.int i) = q' i) : (rng 0 n).filter q = ((((List.range' 0 n).map fun i : Nat => (i : Int)).filter q').map D.int) := by
  rw [rng0, show ((List.range' 0 n).map fun i : Nat => D.int (i : Int)) = ((List.range' 0 n).map fun i : Nat => (i : Int)).map D.int by rw [List.map_map]; rfl, List.filter_map]
  congr 1
  congr 1
  funext i
  exact e i
theorem law_beside_k {p : Pl} (h : PlFull p) {ring beat : Int} (hr : 0 ≤ ring ∧ ring < p.s.cs.length) (cell : Int) : ∃ ks, KsOk p ks ∧ F__law_beside [pureV p.d, pureV p.s.d, pureV (.tup [.int ring, .int beat]), pureV (.int cell)] = .ok ⟨1, false, .lst (ks.map Kn.d)⟩ [none, none, none, none] := by
  have hc := h.full.ok.c hr.1 hr.2
  let fq : Int → Bool := fun k => !isNon (numberD p (ring, k))
  obtain ⟨P0, hP0⟩ : ∃ P0 : List Int, P0 = ((List.range' 0 (getI p.s.cs ring).toNat).map fun i : Nat => (i : Int)).filter fq := ⟨_, rfl⟩
  have m0 : ∀ q ∈ P0, (0 ≤ q ∧ q < getI p.s.cs ring) ∧ numberD p (ring, q) ≠ .non := fun q hq => by
    rw [hP0] at hq
    obtain ⟨q1, q2⟩ := List.mem_filter.mp hq
    obtain ⟨i, i1, rfl⟩ := List.mem_map.mp q1
    have := (List.mem_range'_1.mp i1).2
    refine ⟨⟨by omega, by omega⟩, fun e => ?_⟩
    have q2' : (!isNon (numberD p (ring, (i : Int)))) = true := q2
    rw [e] at q2'
    cases q2'
  have e1 : compL [7] (.nm 7) (e2 true oNotN (eMeth (mt_number_of_3) .n_number_of (.io 0) [.ev (e2 true oIdx (eVar 2) (eC (.int 0))), .ev (eUse 7)]) (eC (.non))) (eUse 7) (rng 0 (getI p.s.cs ring).toNat) [] [some (0, p.d), some (0, p.s.d), some (0, .tup [.int ring, .int beat]), some (0, .int cell), none, none, none, none, none] =
      .ok ⟨1, false, .lst (P0.map .int)⟩ [some (0, p.d), some (0, p.s.d), some (0, .tup [.int ring, .int beat]), some (0, .int cell), none, none, none, none, none] := by
    have := compL_ok (vs := [7]) (t := .nm 7) (ft := e2 true oNotN (eMeth (mt_number_of_3) .n_number_of (.io 0) [.ev (e2 true oIdx (eVar 2) (eC (.int 0))), .ev (eUse 7)]) (eC (.non))) (fe := eUse 7) (ρ := [some (0, p.d), some (0, p.s.d), some (0, .tup [.int ring, .int beat]), some (0, .int cell), none, none, none, none, none]) (fun d => match d with
      | .int k => fq k
      | _ => false) id (rng 0 (getI p.s.cs ring).toNat) [] ?_ (by simp [rng]; omega)
    · rw [this, List.nil_append, rng_flt _ _ fq (fun i => rfl), List.map_id, hP0]
    · intro d hd
      rw [rng0] at hd
      obtain ⟨i, i1, rfl⟩ := List.mem_map.mp hd
      have i2 := (List.mem_range'_1.mp i1).2
      obtain ⟨⟨cl, r1, r2⟩, hn⟩ := number_of_k h (c := (ring, (i : Int))) ⟨hr.1, hr.2, by dsimp only; omega, by dsimp only; omega⟩
      have t0 : ∀ a b : D, atI [a, b] 0 = some a := fun _ _ => rfl
      refine ⟨[some (0, p.d), some (0, p.s.d), some (0, .tup [.int ring, .int beat]), some (0, .int cell), none, none, none, some (0, .int (i : Int)), none], 0, false, [some (0, p.d), some (0, p.s.d), some (0, .tup [.int ring, .int beat]), some (0, .int cell), none, none, none, some (0, .int (i : Int)), none], by simp, ?_, fun _ => by simp [wipeV], fun _ => ⟨0, [some (0, p.d), some (0, p.s.d), some (0, .tup [.int ring, .int beat]), some (0, .int cell), none, none, none, some (0, .int (i : Int)), none], by simp, by simp [wipeV]⟩⟩
      rcases hn with hn | ⟨n, n1, _⟩
      · rw [hn] at r2
        have : fq (i : Int) = false := by show (!isNon (numberD p (ring, (i : Int)))) = false; rw [hn]; rfl
        simp [t0, run_methI, r1, r2, this]
      · rw [n1] at r2
        have : fq (i : Int) = true := by show (!isNon (numberD p (ring, (i : Int)))) = true; rw [n1]; rfl
        simp [t0, run_methI, r1, r2, this]
  obtain ⟨P1, hP1⟩ : ∃ P1 : List Int, P1 = P0.take 7 := ⟨_, rfl⟩
  have l1 : P1.length ≤ 7 := by rw [hP1, List.length_take]; omega
  have c7 : cutD (P0.map D.int) none (some 7) = P1.map .int := by rw [hP1, List.map_take]; exact cutD_to _ 7
  obtain ⟨a, ha⟩ : ∃ a : Nat, cell % ((P1.length : Int) + 1) = (a : Int) := ⟨(cell % ((P1.length : Int) + 1)).toNat, by have := Int.emod_nonneg cell (show ((P1.length : Int) + 1) ≠ 0 by omega); omega⟩
  obtain ⟨P2, hP2⟩ : ∃ P2 : List Int, P2 = P1.drop a ++ P1.take a := ⟨_, rfl⟩
  have l2 : P2.length ≤ 7 := by rw [hP2, List.length_append, List.length_drop, List.length_take]; omega
  have m2 : ∀ q ∈ P2, (0 ≤ q ∧ q < getI p.s.cs ring) ∧ numberD p (ring, q) ≠ .non := fun q hq => by
    rw [hP2] at hq
    have h1 : q ∈ P1 := (List.mem_append.mp hq).elim List.mem_of_mem_drop List.mem_of_mem_take
    rw [hP1] at h1
    exact m0 q (List.mem_of_mem_take h1)
  have o1 : oMod ⟨0, false, .int cell⟩ ⟨0, false, .int ((P1.length : Int) + 1)⟩ = some (pureV (.int (a : Int))) := by rw [oMod_i (by omega), ha]
  have o2 : oAdd ⟨1, false, .lst ((P1.map D.int).drop a)⟩ ⟨1, false, .lst ((P1.map D.int).take a)⟩ = some ⟨1, false, .lst (P2.map .int)⟩ := by
    have e : (P1.map D.int).drop a ++ (P1.map D.int).take a = P2.map .int := by rw [hP2, List.map_append, List.map_drop, List.map_take]
    rw [← e]
    simp only [oAdd]
    have hbg : ((P1.map D.int).drop a).length + ((P1.map D.int).take a).length ≤ BIG := by
      refine Nat.le_of_lt (big1000 ?_)
      simp only [List.length_drop, List.length_take, List.length_map]
      omega
    rw [if_pos ⟨Nat.le_refl 1, Nat.le_refl 1, hbg⟩]
  have o3 : oRev ⟨1, true, .lst (P2.map D.int)⟩ = some ⟨1, false, .lst (P2.reverse.map .int)⟩ := by
    unfold oRev
    dsimp only
    rw [if_pos (Nat.le_refl 1), List.map_reverse]
  have b7 : RB (getI p.s.cs ring) := by unfold RB; omega
  have b2 : RB (P2.length : Int) := by unfold RB; omega
  have t0 : ∀ a b : D, atI [a, b] 0 = some a := fun _ _ => rfl
  have t1 : atI [p.s.zones, .lst (p.s.cs.map .int), .int p.s.lap, .int p.s.skew, .lst (p.s.sw.map .int)] 1 = some (.lst (p.s.cs.map .int)) := rfl
  have ac : atI (p.s.cs.map D.int) ring = some (.int (getI p.s.cs ring)) := atI_int hr.1 hr.2
  have hbb : 0 ≤ cell / 16 % 2 ∧ cell / 16 % 2 ≤ 1 := by omega
  rw [rng0] at e1
  have go : ∀ P3 : List Int, P3.length = P2.length → (∀ q ∈ P3, q ∈ P2) → ∃ y7 y8 : Slot, forL (.nm 7) (sSeq (sAs 8 (eMeth (mt_number_of_3) .n_number_of (.io 0) [.ev (e2 true oIdx (eVar 2) (eC (.int 0))), .ev (e2 true oIdx (eVar 4) (eVar 7))])) (sApp true (lVar 6) (eTup [.ev (e2 true oAdd (e2 true oMul (eC (.int 2)) (eVar 7)) (e2 true oMod (e2 true oDiv (eVar 3) (eC (.int 16))) (eC (.int 2)))), .ev (eUse 8), .ev (eC (.int 1)), .ev (eC (.bl false)), .ev (eTup []), .ev (eC (.non)), .ev (eLst [.ev (eTup [.ev (e2 true oIdx (eVar 2) (eC (.int 0))), .ev (e2 true oIdx (eVar 4) (eVar 7))])])]))) ((List.range' 0 P2.length).map fun i : Nat => D.int (i : Int)) [some (0, p.d), some (0, p.s.d), some (0, .tup [.int ring, .int beat]), some (0, .int cell), some (1, .lst (P3.map .int)), some (0, .int (a : Int)), some (1, .lst []), none, none] =
    .nx [some (0, p.d), some (0, p.s.d), some (0, .tup [.int ring, .int beat]), some (0, .int cell), some (1, .lst (P3.map .int)), some (0, .int (a : Int)), some (1, .lst ((besL p ring (cell / 16 % 2) 0 P3).map Kn.d)), y7, y8] := fun P3 h1 h2 => by
    have := besLoop h (beat := beat) (cell := cell) hr P3 (by omega) (fun q hq => m2 q (h2 q hq)) (some (0, p.s.d)) (some (0, .int (a : Int))) 1 P3 [] none none rfl
    rw [h1] at this
    exact this
  by_cases c8 : cell / 8 % 2 = 1
  · obtain ⟨y7, y8, e2⟩ := go P2.reverse (by simp) (fun q hq => List.mem_reverse.mp hq)
    refine ⟨besL p ring (cell / 16 % 2) 0 P2.reverse, bes_ok h hr hbb (by simp; omega) (fun q hq => m2 q (List.mem_reverse.mp hq)), ?_⟩
    simp only [Sp.d] at e1 e2 ⊢
    unfold F__law_beside runFn c__law_beside
    simp [-List.map_reverse, enter, t0, t1, ac, eq_true b7, run_lc, wipeV, e1, c7, o1, o2, c8, o3, eq_true b2, rng0, e2]
  · have c8' : (cell / 8 % 2 == 1) = false := beq_eq_false_iff_ne.mpr c8
    obtain ⟨y7, y8, e2⟩ := go P2 rfl (fun q hq => hq)
    refine ⟨besL p ring (cell / 16 % 2) 0 P2, bes_ok h hr hbb l2 m2, ?_⟩
    simp only [Sp.d] at e1 e2 ⊢
    unfold F__law_beside runFn c__law_beside
    simp [-List.map_reverse, enter, t0, t1, ac, eq_true b7, run_lc, wipeV, e1, c7, o1, o2, c8', o3, eq_true b2, rng0, e2]
/-! beats of a way -/
theorem beats_b {s : Sp} (h : SpFull s) {r : Int} (h1 : 0 ≤ r) (h2 : r < s.cs.length) : 1 ≤ beats s r ∧ beats s r ≤ 1000000000 := by
  have hc := h.ok.c h1 h2
  have hl := h.ok.lb
  have hd : getI s.cs r ∣ s.lap := by
    refine h.dv _ ?_
    have : r.toNat < s.cs.length := by omega
    unfold getI
    rw [List.getD_eq_getElem?_getD, List.getElem?_eq_getElem this]
    exact List.getElem_mem this
  have hle := Int.le_of_dvd (by omega) hd
  unfold beats
  refine ⟨(Int.le_ediv_iff_mul_le (by omega)).mpr (by omega), ?_⟩
  have := Int.ediv_le_self (a := s.lap) (getI s.cs r) (by omega)
  omega
theorem swing_b {s : Sp} (h : SpFull s) {d : Int} (h1 : 0 ≤ d) (h2 : d < s.cs.length) : 0 ≤ getI s.sw d ∧ getI s.sw d ≤ 1000000000 := by
  have e : getI s.sw d = g s.sw d.toNat := rfl
  rw [e]
  by_cases c : d.toNat = 0
  · rw [c, h.sw.z]; omega
  · have := h.sw.b d.toNat (by omega) (by omega)
    omega
theorem step_b {s : Sp} (h : SpFull s) {ring beat r k : Int} (h1 : 0 ≤ ring) (h2 : ring < s.cs.length) (h3 : 0 ≤ r) (h4 : r < s.cs.length) : beat ≤ stepB s ring beat r k ∧ stepB s ring beat r k ≤ beat + 2000000000 := by
  obtain ⟨a1, a2⟩ := absI_ok h1 h2 h3 h4
  obtain ⟨w1, w2⟩ := swing_b h a1 a2
  have hl := h.ok.lb
  unfold stepB nextB
  have m1 := Int.emod_nonneg (beginsI s r k - (beat + getI s.sw (absI (ring - r)))) (show s.lap ≠ 0 by omega)
  have m2 := Int.emod_lt_of_pos (beginsI s r k - (beat + getI s.sw (absI (ring - r)))) (show 0 < s.lap by omega)
  omega
theorem wayE_b {s : Sp} (h : SpFull s) : ∀ (cells : List (Int × Int)) (ring beat : Int), (∀ c ∈ cells, CellOk s c) → 0 ≤ ring → ring < s.cs.length →
    (0 ≤ (wayE s ring beat cells).1 ∧ (wayE s ring beat cells).1 < s.cs.length) ∧ beat + cells.length ≤ (wayE s ring beat cells).2 ∧ (wayE s ring beat cells).2 ≤ beat + 3000000000 * cells.length
  | [], ring, beat, _, h1, h2 => ⟨⟨h1, h2⟩, by simp [wayE], by simp [wayE]⟩
  | (r, k) :: cs, ring, beat, hc, h1, h2 => by
    obtain ⟨c1, c2, _, _⟩ := hc (r, k) List.mem_cons_self
    obtain ⟨s1, s2⟩ := step_b h (beat := beat) (k := k) h1 h2 c1 c2
    obtain ⟨b1, b2⟩ := beats_b h c1 c2
    obtain ⟨i1, i2, i3⟩ := wayE_b h cs r (stepB s ring beat r k + beats s r) (fun c hh => hc c (List.mem_cons_of_mem _ hh)) c1 c2
    unfold wayE
    rw [List.length_cons]
    refine ⟨i1, by dsimp only at *; omega, by dsimp only at *; omega⟩
/-! tight -/
theorem kn_len {p : Pl} {k : Kn} (h : KnOk p k) : k.cells.length = k.size := by
  have e := congrArg List.length h.ce
  simp [cellsOf] at e
  exact e
theorem tightA {p : Pl} (h : PlFull p) (s2 : Slot) : ∀ (ks : List Kn) (ring beat : Int) (x3 : Slot), (∀ k ∈ ks, KnOk p k) → (∀ k ∈ ks, k.cells.length ≤ 2) → 0 ≤ ring → ring < p.s.cs.length →
    ∃ (r b : Int) (y3 : Slot), forL (.nm 3) (sAs 1 (eCall F__law_behind_way [] [.ev (eUse 0), .ev (e2 true oIdx (eVar 1) (eC (.int 0))), .ev (e2 true oIdx (eVar 1) (eC (.int 1))), .ev (e2 true oIdx (eVar 3) (eC (.int 6)))])) (ks.map Kn.d) [some (0, p.s.d), some (0, .tup [.int ring, .int beat]), s2, x3, none, none] = .nx [some (0, p.s.d), some (0, .tup [.int r, .int b]), s2, y3, none, none] ∧ (0 ≤ r ∧ r < p.s.cs.length) ∧ beat ≤ b ∧ b ≤ beat + 6000000000 * ks.length
  | [], ring, beat, x3, _, _, h1, h2 => ⟨ring, beat, x3, rfl, ⟨h1, h2⟩, Int.le_refl _, by simp⟩
  | k :: ks, ring, beat, x3, hk, hs, h1, h2 => by
    have k0 := hk k List.mem_cons_self
    have l2 := hs k List.mem_cons_self
    have ew := behind_way_k h.full.ok (cells := k.cells) (ring := ring) (beat := beat) k0.ok h1 h2 (by omega)
    obtain ⟨w1, w2, w3⟩ := wayE_b h.full k.cells ring beat k0.ok h1 h2
    obtain ⟨r, b, y3, e, g1, g2, g3⟩ := tightA h s2 ks (wayE p.s ring beat k.cells).1 (wayE p.s ring beat k.cells).2 (some (0, k.d)) (fun x hx => hk x (List.mem_cons_of_mem _ hx)) (fun x hx => hs x (List.mem_cons_of_mem _ hx)) w1.1 w1.2
    refine ⟨r, b, y3, ?_, g1, by omega, by rw [List.length_cons]; omega⟩
    rw [List.map_cons, forL_nx (ρ1 := [some (0, p.s.d), some (0, .tup [.int ring, .int beat]), s2, some (0, k.d), none, none]) (by simp) (ρ2 := [some (0, p.s.d), some (0, .tup [.int (wayE p.s ring beat k.cells).1, .int (wayE p.s ring beat k.cells).2]), s2, some (0, k.d), none, none])]
    · exact e
    · have t0 : ∀ a b : D, atI [a, b] 0 = some a := fun _ _ => rfl
      have t1 : ∀ a b : D, atI [a, b] 1 = some b := fun _ _ => rfl
      have i6 : oIdx ⟨0, false, k.d⟩ ⟨0, false, .int 6⟩ = some (pureV (.lst (k.cells.map cellD))) := rfl
      have imk : immut k.d = true := rfl
      simp [t0, t1, imk, i6, ew]
def tightK (b : Int) (j : Nat) (k : Kn) : Kn := { k with late := .int (b - j) }
def tightL (b : Int) : Nat → List Kn → List Kn
  | _, [] => []
  | j, k :: ks => tightK b j k :: tightL b (j + 1) ks
theorem tightL_snoc {b : Int} : ∀ {ks : List Kn} {j : Nat} {k : Kn}, tightL b j (ks ++ [k]) = tightL b j ks ++ [tightK b (j + ks.length) k]
  | [], j, k => rfl
  | x :: ks, j, k => by
    simp only [List.cons_append, tightL]
    rw [tightL_snoc (ks := ks)]
    simp only [List.length_cons]
    rw [show j + 1 + ks.length = j + (ks.length + 1) by omega]
theorem tightL_len {b : Int} : ∀ {ks : List Kn} {j : Nat}, (tightL b j ks).length = ks.length
  | [], _ => rfl
  | _ :: ks, j => by simp [tightL, tightL_len (ks := ks)]
theorem tightL_mem {b : Int} : ∀ {ks : List Kn} {j : Nat} {k : Kn}, k ∈ tightL b j ks → ∃ i k0, k0 ∈ ks ∧ j ≤ i ∧ i < j + ks.length ∧ k = tightK b i k0
  | [], _, _, h => by cases h
  | x :: ks, j, k, h => by
    rcases List.mem_cons.mp h with rfl | h
    · exact ⟨j, x, List.mem_cons_self, Nat.le_refl _, by rw [List.length_cons]; omega, rfl⟩
    · obtain ⟨i, q, h1, h2, h3, h4⟩ := tightL_mem h
      exact ⟨i, q, List.mem_cons_of_mem _ h1, by omega, by rw [List.length_cons]; omega, h4⟩
theorem tightL_num {b : Int} : ∀ {ks : List Kn} {j : Nat}, (tightL b j ks).map Kn.num = ks.map Kn.num
  | [], _ => rfl
  | k :: ks, j => by
    unfold tightL
    rw [List.map_cons, List.map_cons, tightL_num]
    rfl
theorem tight_ok {p : Pl} {ks : List Kn} (h : KsOk p ks) {b : Int} (h1 : ks.length ≤ b + 1) (h2 : b ≤ 10000000000000) : KsOk p (tightL b 0 ks) := by
  have hl := h.len
  refine ⟨fun k hk => ?_, by rw [tightL_num]; exact h.up, fun k hk => ?_, by rw [tightL_len]; exact h.len, fun k hk => ?_⟩
  · obtain ⟨i, k0, q1, q2, q3, rfl⟩ := tightL_mem hk
    have o := h.ok k0 q1
    exact ⟨o.f0, o.f1, o.f2, o.s1, o.be, .inr ⟨b - i, rfl, by omega, by omega⟩, o.ce, o.ok⟩
  · obtain ⟨i, k0, q1, q2, q3, rfl⟩ := tightL_mem hk
    exact h.nb k0 q1
  · obtain ⟨i, k0, q1, q2, q3, rfl⟩ := tightL_mem hk
    exact h.si k0 q1
theorem tightB {p : Pl} {r b : Int} (ks : List Kn) (hl : ks.length ≤ 7) (y3 : Slot) : ∀ (rest don : List Kn) (x5 : Slot), don ++ rest = ks →
    ∃ y5 : Slot, forL (.nm 5) (sApp true (lVar 4) (e2 true oAdd (e2 true oAdd (eSlc (e2 true oIdx (eVar 2) (eVar 5)) none (some (eC (.int 5)))) (eTup [.ev (e2 true oSub (e2 true oSub (e2 true oAdd (e2 true oIdx (eVar 1) (eC (.int 1))) (e1 oLen (eVar 2))) (eC (.int 1))) (eVar 5))])) (eSlc (e2 true oIdx (eVar 2) (eVar 5)) (some (eC (.int 6))) none))) ((List.range' don.length rest.length).map fun i : Nat => D.int (i : Int)) [some (0, p.s.d), some (0, .tup [.int r, .int b]), some (0, .lst (ks.map Kn.d)), y3, some (1, .lst ((tightL (b + ks.length - 1) 0 don).map Kn.d)), x5] =
    .nx [some (0, p.s.d), some (0, .tup [.int r, .int b]), some (0, .lst (ks.map Kn.d)), y3, some (1, .lst ((tightL (b + ks.length - 1) 0 (don ++ rest)).map Kn.d)), y5]
  | [], don, x5, e => ⟨x5, by simp [forL]⟩
  | k :: rest, don, x5, e => by
    obtain ⟨y5, ih⟩ := tightB (p := p) (r := r) ks hl y3 rest (don ++ [k]) (some (0, .int (don.length : Int))) (by rw [List.append_assoc]; exact e)
    refine ⟨y5, ?_⟩
    have hdl : don.length < ks.length := by rw [← e, List.length_append, List.length_cons]; omega
    rw [List.length_cons, List.range'_succ, List.map_cons, forL_nx (ρ1 := [some (0, p.s.d), some (0, .tup [.int r, .int b]), some (0, .lst (ks.map Kn.d)), y3, some (1, .lst ((tightL (b + ks.length - 1) 0 don).map Kn.d)), some (0, .int (don.length : Int))]) (by simp)
      (ρ2 := [some (0, p.s.d), some (0, .tup [.int r, .int b]), some (0, .lst (ks.map Kn.d)), y3, some (1, .lst ((tightL (b + ks.length - 1) 0 (don ++ [k])).map Kn.d)), some (0, .int (don.length : Int))])]
    · rw [List.append_assoc] at ih
      rw [List.length_append, List.length_singleton] at ih
      exact ih
    · have a2 : atI (ks.map Kn.d) (don.length : Int) = some k.d := by
        rw [atI_map, atI_nat, ← e, List.getElem?_append_right (Nat.le_refl _), Nat.sub_self]
        rfl
      have t1 : ∀ a b : D, atI [a, b] 1 = some b := fun _ _ => rfl
      have c5 : ∀ ds : List D, cutD ds none (some 5) = ds.take 5 := fun ds => cutD_to ds 5
      have c6 : ∀ ds : List D, cutD ds (some 6) none = ds.drop 6 := fun ds => cutD_from ds 6
      have lb : (tightL (b + ks.length - 1) 0 don).length < BIG := by rw [tightL_len]; exact big1000 (by omega)
      have es : tightL (b + ks.length - 1) 0 (don ++ [k]) = tightL (b + ks.length - 1) 0 don ++ [tightK (b + ks.length - 1) don.length k] := by rw [tightL_snoc, Nat.zero_add]
      have ek : (tightK (b + ks.length - 1) don.length k).d = .tup [.int k.num, .int k.first, .int k.size, .bl k.w, .tup (k.beh.map .int), .int (b + ks.length - 1 - don.length), .lst (k.cells.map cellD)] := rfl
      have at_ : ∀ (q q' : Nat) (b b' : Bool) (xs ys : List D), xs ≠ [] → xs.length + ys.length ≤ 1000 → oAdd ⟨q, b, .tup xs⟩ ⟨q', b', .tup ys⟩ = some (pureV (.tup (xs ++ ys))) := fun q q' b b' xs ys hx hh => by
        simp only [oAdd]
        rw [if_pos ⟨hx, Nat.le_of_lt (big1000 hh)⟩]
      have s1 : oSlc ⟨0, false, k.d⟩ none (some 5) = some (pureV (.tup [.int k.num, .int k.first, .int k.size, .bl k.w, .tup (k.beh.map .int)])) := rfl
      have s2 : oSlc ⟨0, false, k.d⟩ (some 6) none = some (pureV (.tup [.lst (k.cells.map cellD)])) := rfl
      rw [es, List.map_append, List.map_cons, List.map_nil, ek]
      simp [a2, t1, s1, s2, at_, lb]
theorem law_tight_k {p : Pl} (h : PlFull p) {ks : List Kn} (hk : KsOk p ks) {ring beat : Int} (hr : 0 ≤ ring ∧ ring < p.s.cs.length) (hb : 0 ≤ beat ∧ beat ≤ 1000000000000) : ∃ ks', KsOk p ks' ∧ F__law_tight [pureV p.s.d, pureV (.tup [.int ring, .int beat]), ⟨1, false, .lst (ks.map Kn.d)⟩] = .ok ⟨1, false, .lst (ks'.map Kn.d)⟩ [none, none, some (0, .lst (ks.map Kn.d))] := by
  obtain ⟨r, b, y3, e1, g1, g2, g3⟩ := tightA h (some (0, .lst (ks.map Kn.d))) ks ring beat none hk.ok hk.si hr.1 hr.2
  obtain ⟨y5, e2⟩ := tightB (p := p) (r := r) (b := b) ks hk.len y3 ks [] none rfl
  have hl := hk.len
  have br : RB (ks.length : Int) := by unfold RB; omega
  refine ⟨tightL (b + ks.length - 1) 0 ks, ?_, ?_⟩
  · exact tight_ok hk (by omega) (by omega)
  · simp only [List.nil_append, List.length_nil, tightL, List.map_nil] at e2
    unfold F__law_tight runFn c__law_tight
    simp [enter, e1, eq_true br, rng0, e2]
end Pd
end
section
namespace Pd
open PySem L2
theorem seq_nx {f g : SF} {ρ ρ' : Vr} (e : f ρ = .nx ρ') : sSeq f g ρ = g ρ' := by rw [run_seq, e]; rfl
theorem cellsOf_ex {p : Pl} (h : PlOk p) {first : Int} (f0 : 0 ≤ first) : ∀ n : Nat, first + n ≤ totalI p → ∃ cells : List (Int × Int), cellsOf p first n = cells.map cellD ∧ (∀ c ∈ cells, CellOk p.s c) ∧ cells.length = n
  | 0, _ => ⟨[], rfl, (fun c hc => by cases hc), rfl⟩
  | n + 1, h1 => by
    obtain ⟨cells, e, ok, l⟩ := cellsOf_ex h f0 n (by omega)
    obtain ⟨c, c1, c2⟩ := cellOf_ok h (n := first + n) (by omega) (by omega)
    refine ⟨cells ++ [c], ?_, fun x hx => ?_, by simp [l]⟩
    · rw [List.map_append, ← e]
      unfold cellsOf
      rw [List.range_succ, List.map_append]
      simp [c1]
    · rcases List.mem_append.mp hx with q | q
      · exact ok x q
      · rw [List.mem_singleton.mp q]; exact c2
theorem rise_of : ∀ {xs : List Int} {l : Int}, xs.Pairwise (· < ·) → (∀ x ∈ xs, l < x ∧ 0 ≤ x ∧ x ≤ 99) → Rise l xs
  | [], _, _, _ => trivial
  | x :: xs, l, h, hb => by
    rw [List.pairwise_cons] at h
    obtain ⟨b1, b2, b3⟩ := hb x List.mem_cons_self
    exact ⟨b1, b2, b3, rise_of h.2 fun y hy => ⟨h.1 y hy, (hb y (List.mem_cons_of_mem _ hy)).2⟩⟩
theorem up_range (n : Nat) (q : Int → Bool) : (((List.range' 0 n).map fun i : Nat => (i : Int)).filter q).Pairwise (· < ·) := by
  refine List.Pairwise.filter q ?_
  rw [List.pairwise_map]
  exact (List.pairwise_lt_range' (s := 0) (n := n)).imp fun h => by omega
structure KsP (p : Pl) (ks : List Kn) (num : Int) (j : Nat) : Prop where
  al : KsOk p ks
  le : ∀ k ∈ ks, k.num ≤ num
  len : ks.length = j
theorem knS {p : Pl} (h : PlFull p) (ns : List Int) {ring beat far : Int} (hr : 0 ≤ ring ∧ ring < p.s.cs.length) (hb : 0 ≤ beat ∧ beat < 1000000000000) (hf : 1 ≤ far ∧ far ≤ 2000000000) (most cell many : Int) (ch : Bool) (j : Nat) (ks : List Kn) (num r b : Int) (x13 x14 x15 x16 x17 x18 : Slot)
    (hj : j < 7) (hk : KsP p ks num j) (hn : -1 ≤ num ∧ num ≤ 3 * j - 1) (hrr : 0 ≤ r ∧ r < p.s.cs.length) (hbb : 0 ≤ b ∧ b ≤ 1000000000000 + 6000000000 * j) :
    ∃ (k1 : Kn) (num' r' b' : Int) (y13 y14 y15 y16 y17 y18 : Slot), (sSeq (sAs 13 (eCall F__law_stream [] [.ev (e2 true oAdd (eCall F__law_cell_at [] [.ev (eUse 0), .ev (e2 true oAdd (eC (.int 6)) (eVar 12))]) (eVar 12)), .ev (eC (.int 9))])) (sSeq (sAs 14 (e2 false oMod (e2 true oIdx (eVar 13) (eC (.int 0))) (e2 true oIdx (eLst [.ev (eMeth (mt_total_1) .n_total (.io 1) []), .ev (e2 true oMin2 (eMeth (mt_total_1) .n_total (.io 1) []) (eC (.int 5)))]) (e2 true oMod (e2 true oDiv (eVar 5) (eC (.int 25))) (eC (.int 2)))))) (sSeq (sIf (eVar 6) (sAs 14 (e2 false oMul (e2 true oMod (e2 true oIdx (eVar 13) (eC (.int 0))) (eC (.int 2))) (e2 true oSub (eMeth (mt_total_1) .n_total (.io 1) []) (eC (.int 1))))) (sNil)) (sSeq (sAs 15 (e2 false oAdd (eC (.int 1)) (e2 false oMod (e2 true oIdx (eVar 13) (eC (.int 1))) (e2 false oMin2 (e2 true oSub (eC (.int 2)) (e1 oInt (eVar 6))) (e2 true oSub (eMeth (mt_total_1) .n_total (.io 1) []) (eVar 14)))))) (sSeq (sAs 10 (e2 true oAdd (e2 true oAdd (eVar 10) (eC (.int 1))) (e2 true oMod (e2 true oIdx (eVar 13) (eC (.int 3))) (eC (.int 3))))) (sSeq (sAs 16 (eLc [19] (.nm 19) (iR1 (eVar 15)) (eC (.bl true)) (eMeth (mt_cell_at_2) .n_cell_at (.io 1) [.ev (e2 true oAdd (eVar 14) (eVar 19))]))) (sSeq (sAs 11 (eCall F__law_behind_way [] [.ev (eUse 2), .ev (e2 true oIdx (eVar 11) (eC (.int 0))), .ev (e2 true oIdx (eVar 11) (eC (.int 1))), .ev (eUse 16)])) (sSeq (sAs 17 (e2 true oIdx (eLst [.ev (eC (.non)), .ev (e2 true oSub (e2 true oIdx (eVar 11) (eC (.int 1))) (e2 true oMod (e2 true oIdx (eVar 13) (eC (.int 6))) (eC (.int 2))))]) (e2 true oMod (e2 true oIdx (eVar 13) (eC (.int 4))) (eC (.int 2))))) (sSeq (sIf (e2 true (oB0 fun i j => decide (j < i)) (e2 true oMod (e2 true oIdx (eVar 13) (eC (.int 4))) (eC (.int 4))) (eC (.int 1))) (sAs 17 (e2 true oAdd (e2 true oIdx (eVar 3) (eC (.int 1))) (e2 true oMod (e2 true oIdx (eVar 13) (eC (.int 5))) (e2 true oAdd (eC (.int 1)) (e2 true oMul (eVar 8) (e2 true oAdd (eC (.int 1)) (e2 true oMod (e2 true oIdx (eVar 13) (eC (.int 6))) (e2 true oIdx (eLst [.ev (eC (.int 4)), .ev (eC (.int 9))]) (e1 oInt (eVar 6)))))))))) (sNil)) (sSeq (sAs 18 (e1 oTuple (eLc [19] (.nm 19) (iR1 (eVar 10)) (eAnd (e2 true (oEqD false) (e2 true oMod (e2 true oDiv (e2 true oIdx (eVar 13) (eC (.int 7))) (e2 true oAdd (eC (.int 1)) (eVar 19))) (eC (.int 4))) (eC (.int 0))) (e2 true (oEqD false) (e2 true oMod (e2 true oIdx (eVar 13) (eC (.int 8))) (eC (.int 3))) (eC (.int 0)))) (eUse 19)))) (sApp true (lVar 9) (eTup [.ev (eUse 10), .ev (eUse 14), .ev (eUse 15), .ev (eOr (eVar 6) (e2 true (oEqD false) (e2 true oMod (e2 true oIdx (eVar 13) (eC (.int 2))) (eC (.int 3))) (eC (.int 0)))), .ev (eUse 18), .ev (eUse 17), .ev (eUse 16)])))))))))))) [some (0, .frl (ns.map .int)), some (0, p.d), some (0, p.s.d), some (0, .tup [.int ring, .int beat]), some (0, .int most), some (0, .int cell), some (0, .bl ch), some (0, .int many), some (0, .int far), some (1, .lst (ks.map Kn.d)), some (0, .int (num)), some (0, .tup [.int r, .int b]), some (0, .int (j : Int)), x13, x14, x15, x16, x17, x18, none] = .nx [some (0, .frl (ns.map .int)), some (0, p.d), some (0, p.s.d), some (0, .tup [.int ring, .int beat]), some (0, .int most), some (0, .int cell), some (0, .bl ch), some (0, .int many), some (0, .int far), some (1, .lst ((ks ++ [k1]).map Kn.d)), some (0, .int (num')), some (0, .tup [.int r', .int b']), some (0, .int (j : Int)), y13, y14, y15, y16, y17, y18, none] ∧ KsP p (ks ++ [k1]) num' (j + 1) ∧ (-1 ≤ num' ∧ num' ≤ 3 * ((j + 1 : Nat) : Int) - 1) ∧ (0 ≤ r' ∧ r' < p.s.cs.length) ∧ (0 ≤ b' ∧ b' ≤ 1000000000000 + 6000000000 * ((j + 1 : Nat) : Int)) := by
  have hst := F_stream (cellAt ns (6 + j) + j) 9 (by decide)
  have hX : (stream (cellAt ns (6 + j) + j) 9).length = 9 := stream_len _ 9
  have hp : ∀ x ∈ stream (cellAt ns (6 + j) + j) 9, 0 ≤ x ∧ x < 2147483647 := fun x hx => stream_ok x hx
  revert hst hX hp
  generalize stream (cellAt ns (6 + j) + j) 9 = X
  intro hst hX hp
  have hst' : F__law_stream [pureV (.int (cellAt ns (6 + j) + j)), pureV (.int 9)] = .ok ⟨1, false, .lst (X.map .int)⟩ [none, none] := hst
  have gi : ∀ k : Nat, k < 9 → atI (X.map D.int) (k : Int) = some (.int (g X k)) := fun k hk => atI_g rfl (by omega)
  have gb : ∀ k : Nat, k < 9 → 0 ≤ g X k ∧ g X k < 2147483647 := fun k hk => by
    refine hp _ ?_
    have : k < X.length := by omega
    unfold g
    rw [List.getD_eq_getElem?_getD, List.getElem?_eq_getElem this]
    exact List.getElem_mem this
  have i0 : atI (X.map D.int) 0 = some (.int (g X 0)) := gi 0 (by decide)
  have i1 : atI (X.map D.int) 1 = some (.int (g X 1)) := gi 1 (by decide)
  have i2 : atI (X.map D.int) 2 = some (.int (g X 2)) := gi 2 (by decide)
  have i3 : atI (X.map D.int) 3 = some (.int (g X 3)) := gi 3 (by decide)
  have i4 : atI (X.map D.int) 4 = some (.int (g X 4)) := gi 4 (by decide)
  have i5 : atI (X.map D.int) 5 = some (.int (g X 5)) := gi 5 (by decide)
  have i6 : atI (X.map D.int) 6 = some (.int (g X 6)) := gi 6 (by decide)
  have i7 : atI (X.map D.int) 7 = some (.int (g X 7)) := gi 7 (by decide)
  have i8 : atI (X.map D.int) 8 = some (.int (g X 8)) := gi 8 (by decide)
  have ht := total_ge h
  have ht2 := total_le h
  have ec : F__law_cell_at [pureV (.frl (ns.map .int)), pureV (.int (6 + (j : Int)))] = .ok (pureV (.int (cellAt ns (6 + j)))) [none, none] := F_cell_at ns (6 + j)
  have rt := rc_total (p := p) (m := 0) (b := false)
  have tk := total_k h.ok (m := 0)
  have t0 : ∀ a b : D, atI [a, b] 0 = some a := fun _ _ => rfl
  have t1 : ∀ a b : D, atI [a, b] 1 = some b := fun _ _ => rfl
  have e13 : (sAs 13 (eCall F__law_stream [] [.ev (e2 true oAdd (eCall F__law_cell_at [] [.ev (eUse 0), .ev (e2 true oAdd (eC (.int 6)) (eVar 12))]) (eVar 12)), .ev (eC (.int 9))])) [some (0, .frl (ns.map .int)), some (0, p.d), some (0, p.s.d), some (0, .tup [.int ring, .int beat]), some (0, .int most), some (0, .int cell), some (0, .bl ch), some (0, .int many), some (0, .int far), some (1, .lst (ks.map Kn.d)), some (0, .int (num)), some (0, .tup [.int r, .int b]), some (0, .int (j : Int)), x13, x14, x15, x16, x17, x18, none] = .nx [some (0, .frl (ns.map .int)), some (0, p.d), some (0, p.s.d), some (0, .tup [.int ring, .int beat]), some (0, .int most), some (0, .int cell), some (0, .bl ch), some (0, .int many), some (0, .int far), some (1, .lst (ks.map Kn.d)), some (0, .int (num)), some (0, .tup [.int r, .int b]), some (0, .int (j : Int)), some (1, .lst (X.map .int)), x14, x15, x16, x17, x18, none] := by
    simp [ec, hst']
  obtain ⟨mn, mn1, mn2, mn3⟩ : ∃ mn : Int, oMin2 ⟨0, false, .int (totalI p)⟩ ⟨0, false, .int 5⟩ = some (pureV (.int mn)) ∧ 1 ≤ mn ∧ mn ≤ totalI p := by
    by_cases c : 5 < totalI p
    · exact ⟨5, by simp only [oMin2, if_pos c], by omega, by omega⟩
    · exact ⟨totalI p, by simp only [oMin2, if_neg c], by omega, by omega⟩
  obtain ⟨d, d1, d2, ad⟩ : ∃ d : Int, 1 ≤ d ∧ d ≤ totalI p ∧ atI [D.int (totalI p), D.int mn] (cell / 25 % 2) = some (.int d) := by
    have : cell / 25 % 2 = 0 ∨ cell / 25 % 2 = 1 := by omega
    rcases this with q | q <;> rw [q]
    · exact ⟨totalI p, by omega, Int.le_refl _, rfl⟩
    · exact ⟨mn, mn2, mn3, rfl⟩
  have o14 : oMod ⟨0, false, .int (g X 0)⟩ ⟨0, false, .int d⟩ = some (pureV (.int (g X 0 % d))) := oMod_i (by omega)
  have m1 := Int.emod_nonneg (g X 0) (show d ≠ 0 by omega)
  have m2 := Int.emod_lt_of_pos (g X 0) (show 0 < d by omega)
  have e14a : (sAs 14 (e2 false oMod (e2 true oIdx (eVar 13) (eC (.int 0))) (e2 true oIdx (eLst [.ev (eMeth (mt_total_1) .n_total (.io 1) []), .ev (e2 true oMin2 (eMeth (mt_total_1) .n_total (.io 1) []) (eC (.int 5)))]) (e2 true oMod (e2 true oDiv (eVar 5) (eC (.int 25))) (eC (.int 2)))))) [some (0, .frl (ns.map .int)), some (0, p.d), some (0, p.s.d), some (0, .tup [.int ring, .int beat]), some (0, .int most), some (0, .int cell), some (0, .bl ch), some (0, .int many), some (0, .int far), some (1, .lst (ks.map Kn.d)), some (0, .int (num)), some (0, .tup [.int r, .int b]), some (0, .int (j : Int)), some (1, .lst (X.map .int)), x14, x15, x16, x17, x18, none] = .nx [some (0, .frl (ns.map .int)), some (0, p.d), some (0, p.s.d), some (0, .tup [.int ring, .int beat]), some (0, .int most), some (0, .int cell), some (0, .bl ch), some (0, .int many), some (0, .int far), some (1, .lst (ks.map Kn.d)), some (0, .int (num)), some (0, .tup [.int r, .int b]), some (0, .int (j : Int)), some (1, .lst (X.map .int)), some (0, .int (g X 0 % d)), x15, x16, x17, x18, none] := by
    simp [i0, run_methI, rt, tk, mn1, ad, o14]
  obtain ⟨first, f0, f1, e14⟩ : ∃ first : Int, 0 ≤ first ∧ first < totalI p ∧ (sIf (eVar 6) (sAs 14 (e2 false oMul (e2 true oMod (e2 true oIdx (eVar 13) (eC (.int 0))) (eC (.int 2))) (e2 true oSub (eMeth (mt_total_1) .n_total (.io 1) []) (eC (.int 1))))) (sNil)) [some (0, .frl (ns.map .int)), some (0, p.d), some (0, p.s.d), some (0, .tup [.int ring, .int beat]), some (0, .int most), some (0, .int cell), some (0, .bl ch), some (0, .int many), some (0, .int far), some (1, .lst (ks.map Kn.d)), some (0, .int (num)), some (0, .tup [.int r, .int b]), some (0, .int (j : Int)), some (1, .lst (X.map .int)), some (0, .int (g X 0 % d)), x15, x16, x17, x18, none] = .nx [some (0, .frl (ns.map .int)), some (0, p.d), some (0, p.s.d), some (0, .tup [.int ring, .int beat]), some (0, .int most), some (0, .int cell), some (0, .bl ch), some (0, .int many), some (0, .int far), some (1, .lst (ks.map Kn.d)), some (0, .int (num)), some (0, .tup [.int r, .int b]), some (0, .int (j : Int)), some (1, .lst (X.map .int)), some (0, .int first), x15, x16, x17, x18, none] := by
    cases ch with
    | false => exact ⟨g X 0 % d, m1, by omega, by simp⟩
    | true =>
      have o : oMul ⟨0, false, .int (g X 0 % 2)⟩ ⟨0, false, .int (totalI p - 1)⟩ = some (pureV (.int (g X 0 % 2 * (totalI p - 1)))) := oMul_l (by omega)
      have q : g X 0 % 2 = 0 ∨ g X 0 % 2 = 1 := by omega
      refine ⟨g X 0 % 2 * (totalI p - 1), ?_, ?_, by simp [i0, run_methI, rt, tk, o]⟩
      · rcases q with q | q <;> rw [q] <;> omega
      · rcases q with q | q <;> rw [q] <;> omega
  obtain ⟨mm, q1, q2, q3, q4⟩ : ∃ mm : Int, oMin2 ⟨0, false, .int (2 - (if ch = true then 1 else 0))⟩ ⟨0, false, .int (totalI p - first)⟩ = some (pureV (.int mm)) ∧ 1 ≤ mm ∧ mm ≤ 2 ∧ mm ≤ totalI p - first := by
    by_cases c : totalI p - first < 2 - (if ch = true then 1 else 0)
    · exact ⟨totalI p - first, by simp only [oMin2, if_pos c], by omega, by cases ch <;> simp at c <;> omega, Int.le_refl _⟩
    · exact ⟨2 - (if ch = true then 1 else 0), by simp only [oMin2, if_neg c], by cases ch <;> simp, by cases ch <;> simp, by omega⟩
  have o15 : oMod ⟨0, false, .int (g X 1)⟩ ⟨0, false, .int mm⟩ = some (pureV (.int (g X 1 % mm))) := oMod_i (by omega)
  have m3 := Int.emod_nonneg (g X 1) (show mm ≠ 0 by omega)
  have m4 := Int.emod_lt_of_pos (g X 1) (show 0 < mm by omega)
  obtain ⟨n, hnn⟩ : ∃ n : Nat, 1 + g X 1 % mm = (n : Int) := ⟨(1 + g X 1 % mm).toNat, by omega⟩
  have n1 : 1 ≤ n ∧ n ≤ 2 := by omega
  have oi : oInt ⟨0, false, .bl ch⟩ = some (pureV (.int (if ch = true then 1 else 0))) := rfl
  have e15 : (sAs 15 (e2 false oAdd (eC (.int 1)) (e2 false oMod (e2 true oIdx (eVar 13) (eC (.int 1))) (e2 false oMin2 (e2 true oSub (eC (.int 2)) (e1 oInt (eVar 6))) (e2 true oSub (eMeth (mt_total_1) .n_total (.io 1) []) (eVar 14)))))) [some (0, .frl (ns.map .int)), some (0, p.d), some (0, p.s.d), some (0, .tup [.int ring, .int beat]), some (0, .int most), some (0, .int cell), some (0, .bl ch), some (0, .int many), some (0, .int far), some (1, .lst (ks.map Kn.d)), some (0, .int (num)), some (0, .tup [.int r, .int b]), some (0, .int (j : Int)), some (1, .lst (X.map .int)), some (0, .int first), x15, x16, x17, x18, none] = .nx [some (0, .frl (ns.map .int)), some (0, p.d), some (0, p.s.d), some (0, .tup [.int ring, .int beat]), some (0, .int most), some (0, .int cell), some (0, .bl ch), some (0, .int many), some (0, .int far), some (1, .lst (ks.map Kn.d)), some (0, .int (num)), some (0, .tup [.int r, .int b]), some (0, .int (j : Int)), some (1, .lst (X.map .int)), some (0, .int first), some (0, .int (n : Int)), x16, x17, x18, none] := by
    simp [i1, run_methI, rt, tk, oi, q1, o15, hnn]
  have e10 : (sAs 10 (e2 true oAdd (e2 true oAdd (eVar 10) (eC (.int 1))) (e2 true oMod (e2 true oIdx (eVar 13) (eC (.int 3))) (eC (.int 3))))) [some (0, .frl (ns.map .int)), some (0, p.d), some (0, p.s.d), some (0, .tup [.int ring, .int beat]), some (0, .int most), some (0, .int cell), some (0, .bl ch), some (0, .int many), some (0, .int far), some (1, .lst (ks.map Kn.d)), some (0, .int (num)), some (0, .tup [.int r, .int b]), some (0, .int (j : Int)), some (1, .lst (X.map .int)), some (0, .int first), some (0, .int (n : Int)), x16, x17, x18, none] = .nx [some (0, .frl (ns.map .int)), some (0, p.d), some (0, p.s.d), some (0, .tup [.int ring, .int beat]), some (0, .int most), some (0, .int cell), some (0, .bl ch), some (0, .int many), some (0, .int far), some (1, .lst (ks.map Kn.d)), some (0, .int (num + 1 + g X 3 % 3)), some (0, .tup [.int r, .int b]), some (0, .int (j : Int)), some (1, .lst (X.map .int)), some (0, .int first), some (0, .int (n : Int)), x16, x17, x18, none] := by
    simp [i3]
  obtain ⟨cells, k1, k2, k3⟩ := cellsOf_ex h.ok f0 n (by omega)
  have rb16 : RB (n : Int) := by unfold RB; omega
  have e16 : (sAs 16 (eLc [19] (.nm 19) (iR1 (eVar 15)) (eC (.bl true)) (eMeth (mt_cell_at_2) .n_cell_at (.io 1) [.ev (e2 true oAdd (eVar 14) (eVar 19))]))) [some (0, .frl (ns.map .int)), some (0, p.d), some (0, p.s.d), some (0, .tup [.int ring, .int beat]), some (0, .int most), some (0, .int cell), some (0, .bl ch), some (0, .int many), some (0, .int far), some (1, .lst (ks.map Kn.d)), some (0, .int (num + 1 + g X 3 % 3)), some (0, .tup [.int r, .int b]), some (0, .int (j : Int)), some (1, .lst (X.map .int)), some (0, .int first), some (0, .int (n : Int)), x16, x17, x18, none] = .nx [some (0, .frl (ns.map .int)), some (0, p.d), some (0, p.s.d), some (0, .tup [.int ring, .int beat]), some (0, .int most), some (0, .int cell), some (0, .bl ch), some (0, .int many), some (0, .int far), some (1, .lst (ks.map Kn.d)), some (0, .int (num + 1 + g X 3 % 3)), some (0, .tup [.int r, .int b]), some (0, .int (j : Int)), some (1, .lst (X.map .int)), some (0, .int first), some (0, .int (n : Int)), some (1, .lst (cells.map cellD)), x17, x18, none] := by
    have lc := lcAt h.ok f0 (many := n) (by omega) (Nat.le_of_lt (big1000 (by omega))) (vs := [19]) (iv := 19) (ip := 1) (fe := eMeth (mt_cell_at_2) .n_cell_at (.io 1) [.ev (e2 true oAdd (eVar 14) (eVar 19))]) (ρ := [some (0, .frl (ns.map .int)), some (0, p.d), some (0, p.s.d), some (0, .tup [.int ring, .int beat]), some (0, .int most), some (0, .int cell), some (0, .bl ch), some (0, .int many), some (0, .int far), some (1, .lst (ks.map Kn.d)), some (0, .int (num + 1 + g X 3 % 3)), some (0, .tup [.int r, .int b]), some (0, .int (j : Int)), some (1, .lst (X.map .int)), some (0, .int first), some (0, .int (n : Int)), x16, x17, x18, none]) 0 (fun i hi => by
      obtain ⟨cl, r1, r2⟩ := cell_at_k h.ok (n := first + i) (by omega) (by omega)
      refine ⟨[some (0, .frl (ns.map .int)), some (0, p.d), some (0, p.s.d), some (0, .tup [.int ring, .int beat]), some (0, .int most), some (0, .int cell), some (0, .bl ch), some (0, .int many), some (0, .int far), some (1, .lst (ks.map Kn.d)), some (0, .int (num + 1 + g X 3 % 3)), some (0, .tup [.int r, .int b]), some (0, .int (j : Int)), some (1, .lst (X.map .int)), some (0, .int first), some (0, .int (n : Int)), x16, x17, x18, some (0, .int (i : Int))], ⟨[some (0, .frl (ns.map .int)), some (0, p.d), some (0, p.s.d), some (0, .tup [.int ring, .int beat]), some (0, .int most), some (0, .int cell), some (0, .bl ch), some (0, .int many), some (0, .int far), some (1, .lst (ks.map Kn.d)), some (0, .int (num + 1 + g X 3 % 3)), some (0, .tup [.int r, .int b]), some (0, .int (j : Int)), some (1, .lst (X.map .int)), some (0, .int first), some (0, .int (n : Int)), x16, x17, x18, some (0, .int (i : Int))], by simp, ?_⟩, by simp [wipeV]⟩
      simp [run_methI, r1, r2])
    have lc' : compL [19] (.nm 19) (eC (.bl true)) (eMeth (mt_cell_at_2) .n_cell_at (.io 1) [.ev (e2 true oAdd (eVar 14) (eVar 19))]) (rng 0 n) [] [some (0, .frl (ns.map .int)), some (0, p.d), some (0, p.s.d), some (0, .tup [.int ring, .int beat]), some (0, .int most), some (0, .int cell), some (0, .bl ch), some (0, .int many), some (0, .int far), some (1, .lst (ks.map Kn.d)), some (0, .int (num + 1 + g X 3 % 3)), some (0, .tup [.int r, .int b]), some (0, .int (j : Int)), some (1, .lst (X.map .int)), some (0, .int first), some (0, .int (n : Int)), x16, x17, x18, none] = .ok ⟨1, false, .lst (cells.map cellD)⟩ [some (0, .frl (ns.map .int)), some (0, p.d), some (0, p.s.d), some (0, .tup [.int ring, .int beat]), some (0, .int most), some (0, .int cell), some (0, .bl ch), some (0, .int many), some (0, .int far), some (1, .lst (ks.map Kn.d)), some (0, .int (num + 1 + g X 3 % 3)), some (0, .tup [.int r, .int b]), some (0, .int (j : Int)), some (1, .lst (X.map .int)), some (0, .int first), some (0, .int (n : Int)), x16, x17, x18, none] := by
      rw [lc, ← k1]
      rfl
    simp only [run_as, run_lc, run_iR1, run_var]
    simp [-List.map_map, eq_true rb16, wipeV, lc']
  obtain ⟨g1, g2, g3⟩ := wayE_b h.full cells r b k2 hrr.1 hrr.2
  have ew := behind_way_k h.full.ok (cells := cells) (ring := r) (beat := b) k2 hrr.1 hrr.2 (by omega)
  have imd : immut p.s.d = true := rfl
  have e11 : (sAs 11 (eCall F__law_behind_way [] [.ev (eUse 2), .ev (e2 true oIdx (eVar 11) (eC (.int 0))), .ev (e2 true oIdx (eVar 11) (eC (.int 1))), .ev (eUse 16)])) [some (0, .frl (ns.map .int)), some (0, p.d), some (0, p.s.d), some (0, .tup [.int ring, .int beat]), some (0, .int most), some (0, .int cell), some (0, .bl ch), some (0, .int many), some (0, .int far), some (1, .lst (ks.map Kn.d)), some (0, .int (num + 1 + g X 3 % 3)), some (0, .tup [.int r, .int b]), some (0, .int (j : Int)), some (1, .lst (X.map .int)), some (0, .int first), some (0, .int (n : Int)), some (1, .lst (cells.map cellD)), x17, x18, none] = .nx [some (0, .frl (ns.map .int)), some (0, p.d), some (0, p.s.d), some (0, .tup [.int ring, .int beat]), some (0, .int most), some (0, .int cell), some (0, .bl ch), some (0, .int many), some (0, .int far), some (1, .lst (ks.map Kn.d)), some (0, .int (num + 1 + g X 3 % 3)), some (0, .tup [.int (wayE p.s r b cells).1, .int (wayE p.s r b cells).2]), some (0, .int (j : Int)), some (1, .lst (X.map .int)), some (0, .int first), some (0, .int (n : Int)), some (0, .lst (cells.map cellD)), x17, x18, none] := by
    simp [-List.map_map, imd, t0, t1, ew]
  obtain ⟨l0, l1, l2⟩ : ∃ l0 : D, atI [D.non, D.int ((wayE p.s r b cells).2 - g X 6 % 2)] (g X 4 % 2) = some l0 ∧ LateOk l0 := by
    have : g X 4 % 2 = 0 ∨ g X 4 % 2 = 1 := by omega
    rcases this with q | q <;> rw [q]
    · exact ⟨.non, rfl, .inl rfl⟩
    · exact ⟨_, rfl, .inr ⟨_, rfl, by omega, by omega⟩⟩
  have e17a : (sAs 17 (e2 true oIdx (eLst [.ev (eC (.non)), .ev (e2 true oSub (e2 true oIdx (eVar 11) (eC (.int 1))) (e2 true oMod (e2 true oIdx (eVar 13) (eC (.int 6))) (eC (.int 2))))]) (e2 true oMod (e2 true oIdx (eVar 13) (eC (.int 4))) (eC (.int 2))))) [some (0, .frl (ns.map .int)), some (0, p.d), some (0, p.s.d), some (0, .tup [.int ring, .int beat]), some (0, .int most), some (0, .int cell), some (0, .bl ch), some (0, .int many), some (0, .int far), some (1, .lst (ks.map Kn.d)), some (0, .int (num + 1 + g X 3 % 3)), some (0, .tup [.int (wayE p.s r b cells).1, .int (wayE p.s r b cells).2]), some (0, .int (j : Int)), some (1, .lst (X.map .int)), some (0, .int first), some (0, .int (n : Int)), some (0, .lst (cells.map cellD)), x17, x18, none] = .nx [some (0, .frl (ns.map .int)), some (0, p.d), some (0, p.s.d), some (0, .tup [.int ring, .int beat]), some (0, .int most), some (0, .int cell), some (0, .bl ch), some (0, .int many), some (0, .int far), some (1, .lst (ks.map Kn.d)), some (0, .int (num + 1 + g X 3 % 3)), some (0, .tup [.int (wayE p.s r b cells).1, .int (wayE p.s r b cells).2]), some (0, .int (j : Int)), some (1, .lst (X.map .int)), some (0, .int first), some (0, .int (n : Int)), some (0, .lst (cells.map cellD)), some (0, l0), x18, none] := by
    simp [i4, i6, t1, l1]
  obtain ⟨late, l3, e17⟩ : ∃ late : D, LateOk late ∧ (sIf (e2 true (oB0 fun i j => decide (j < i)) (e2 true oMod (e2 true oIdx (eVar 13) (eC (.int 4))) (eC (.int 4))) (eC (.int 1))) (sAs 17 (e2 true oAdd (e2 true oIdx (eVar 3) (eC (.int 1))) (e2 true oMod (e2 true oIdx (eVar 13) (eC (.int 5))) (e2 true oAdd (eC (.int 1)) (e2 true oMul (eVar 8) (e2 true oAdd (eC (.int 1)) (e2 true oMod (e2 true oIdx (eVar 13) (eC (.int 6))) (e2 true oIdx (eLst [.ev (eC (.int 4)), .ev (eC (.int 9))]) (e1 oInt (eVar 6)))))))))) (sNil)) [some (0, .frl (ns.map .int)), some (0, p.d), some (0, p.s.d), some (0, .tup [.int ring, .int beat]), some (0, .int most), some (0, .int cell), some (0, .bl ch), some (0, .int many), some (0, .int far), some (1, .lst (ks.map Kn.d)), some (0, .int (num + 1 + g X 3 % 3)), some (0, .tup [.int (wayE p.s r b cells).1, .int (wayE p.s r b cells).2]), some (0, .int (j : Int)), some (1, .lst (X.map .int)), some (0, .int first), some (0, .int (n : Int)), some (0, .lst (cells.map cellD)), some (0, l0), x18, none] = .nx [some (0, .frl (ns.map .int)), some (0, p.d), some (0, p.s.d), some (0, .tup [.int ring, .int beat]), some (0, .int most), some (0, .int cell), some (0, .bl ch), some (0, .int many), some (0, .int far), some (1, .lst (ks.map Kn.d)), some (0, .int (num + 1 + g X 3 % 3)), some (0, .tup [.int (wayE p.s r b cells).1, .int (wayE p.s r b cells).2]), some (0, .int (j : Int)), some (1, .lst (X.map .int)), some (0, .int first), some (0, .int (n : Int)), some (0, .lst (cells.map cellD)), some (0, late), x18, none] := by
    by_cases c : 1 < g X 4 % 4
    · obtain ⟨q, hq1, hq2⟩ : ∃ q : Int, atI [D.int 4, D.int 9] (if ch = true then 1 else 0) = some (.int q) ∧ 1 ≤ q := by
        cases ch
        · exact ⟨4, rfl, by decide⟩
        · exact ⟨9, rfl, by decide⟩
      have oq : oMod ⟨0, false, .int (g X 6)⟩ ⟨0, false, .int q⟩ = some (pureV (.int (g X 6 % q))) := oMod_i (by omega)
      have mq := Int.emod_nonneg (g X 6) (show q ≠ 0 by omega)
      have om : oMul ⟨0, false, .int far⟩ ⟨0, false, .int (1 + g X 6 % q)⟩ = some (pureV (.int (far * (1 + g X 6 % q)))) := oMul_l (by omega)
      have hm := Int.mul_nonneg (show 0 ≤ far by omega) (show 0 ≤ 1 + g X 6 % q by omega)
      have o5 : oMod ⟨0, false, .int (g X 5)⟩ ⟨0, false, .int (1 + far * (1 + g X 6 % q))⟩ = some (pureV (.int (g X 5 % (1 + far * (1 + g X 6 % q))))) := oMod_i (by omega)
      have b5 := gb 5 (by decide)
      have v1 := Int.emod_nonneg (g X 5) (show (1 + far * (1 + g X 6 % q)) ≠ 0 by omega)
      have v2 : g X 5 % (1 + far * (1 + g X 6 % q)) ≤ g X 5 := by
        by_cases hlt : g X 5 < 1 + far * (1 + g X 6 % q)
        · rw [Int.emod_eq_of_lt b5.1 hlt]; exact Int.le_refl _
        · have := Int.emod_lt_of_pos (g X 5) (show 0 < (1 + far * (1 + g X 6 % q)) by omega)
          omega
      refine ⟨.int (beat + g X 5 % (1 + far * (1 + g X 6 % q))), .inr ⟨_, rfl, by omega, by omega⟩, ?_⟩
      simp [i4, i5, i6, t1, c, oi, hq1, oq, om, o5]
    · refine ⟨l0, l2, ?_⟩
      have c' : ¬ (1 < g X 4 % 4) := c
      simp [i4, c']
  have hm3 : 0 ≤ g X 3 % 3 ∧ g X 3 % 3 < 3 := by omega
  have rb18 : RB (num + 1 + g X 3 % 3) := by unfold RB; omega
  let fq : Int → Bool := fun i => (g X 7 / (1 + i) % 4 == 0) && (g X 8 % 3 == 0)
  obtain ⟨P, hP⟩ : ∃ P : List Int, P = ((List.range' 0 (num + 1 + g X 3 % 3).toNat).map fun i : Nat => (i : Int)).filter fq := ⟨_, rfl⟩
  have hP1 : ∀ q ∈ P, 0 ≤ q ∧ q < num + 1 + g X 3 % 3 := fun q hq => by
    rw [hP] at hq
    obtain ⟨i, i1, rfl⟩ := List.mem_map.mp (List.mem_filter.mp hq).1
    have := (List.mem_range'_1.mp i1).2
    omega
  have ef : compL [19] (.nm 19) (eAnd (e2 true (oEqD false) (e2 true oMod (e2 true oDiv (e2 true oIdx (eVar 13) (eC (.int 7))) (e2 true oAdd (eC (.int 1)) (eVar 19))) (eC (.int 4))) (eC (.int 0))) (e2 true (oEqD false) (e2 true oMod (e2 true oIdx (eVar 13) (eC (.int 8))) (eC (.int 3))) (eC (.int 0)))) (eUse 19) (rng 0 (num + 1 + g X 3 % 3).toNat) [] [some (0, .frl (ns.map .int)), some (0, p.d), some (0, p.s.d), some (0, .tup [.int ring, .int beat]), some (0, .int most), some (0, .int cell), some (0, .bl ch), some (0, .int many), some (0, .int far), some (1, .lst (ks.map Kn.d)), some (0, .int (num + 1 + g X 3 % 3)), some (0, .tup [.int (wayE p.s r b cells).1, .int (wayE p.s r b cells).2]), some (0, .int (j : Int)), some (1, .lst (X.map .int)), some (0, .int first), some (0, .int (n : Int)), some (0, .lst (cells.map cellD)), some (0, late), x18, none] = .ok ⟨1, false, .lst (P.map .int)⟩ [some (0, .frl (ns.map .int)), some (0, p.d), some (0, p.s.d), some (0, .tup [.int ring, .int beat]), some (0, .int most), some (0, .int cell), some (0, .bl ch), some (0, .int many), some (0, .int far), some (1, .lst (ks.map Kn.d)), some (0, .int (num + 1 + g X 3 % 3)), some (0, .tup [.int (wayE p.s r b cells).1, .int (wayE p.s r b cells).2]), some (0, .int (j : Int)), some (1, .lst (X.map .int)), some (0, .int first), some (0, .int (n : Int)), some (0, .lst (cells.map cellD)), some (0, late), x18, none] := by
    have := compL_ok (vs := [19]) (t := .nm 19) (ft := eAnd (e2 true (oEqD false) (e2 true oMod (e2 true oDiv (e2 true oIdx (eVar 13) (eC (.int 7))) (e2 true oAdd (eC (.int 1)) (eVar 19))) (eC (.int 4))) (eC (.int 0))) (e2 true (oEqD false) (e2 true oMod (e2 true oIdx (eVar 13) (eC (.int 8))) (eC (.int 3))) (eC (.int 0)))) (fe := eUse 19) (ρ := [some (0, .frl (ns.map .int)), some (0, p.d), some (0, p.s.d), some (0, .tup [.int ring, .int beat]), some (0, .int most), some (0, .int cell), some (0, .bl ch), some (0, .int many), some (0, .int far), some (1, .lst (ks.map Kn.d)), some (0, .int (num + 1 + g X 3 % 3)), some (0, .tup [.int (wayE p.s r b cells).1, .int (wayE p.s r b cells).2]), some (0, .int (j : Int)), some (1, .lst (X.map .int)), some (0, .int first), some (0, .int (n : Int)), some (0, .lst (cells.map cellD)), some (0, late), x18, none]) (fun d => match d with
      | .int k => fq k
      | _ => false) id (rng 0 (num + 1 + g X 3 % 3).toNat) [] ?_ (by simp [rng]; omega)
    · rw [this, List.nil_append, rng_flt _ _ fq (fun i => rfl), List.map_id, hP]
    · intro dd hd
      rw [rng0] at hd
      obtain ⟨i, i1', rfl⟩ := List.mem_map.mp hd
      have i2' := (List.mem_range'_1.mp i1').2
      have od : oDiv ⟨0, false, .int (g X 7)⟩ ⟨0, false, .int (1 + (i : Int))⟩ = some (pureV (.int (g X 7 / (1 + (i : Int))))) := oDiv_i (by omega) (by omega)
      refine ⟨[some (0, .frl (ns.map .int)), some (0, p.d), some (0, p.s.d), some (0, .tup [.int ring, .int beat]), some (0, .int most), some (0, .int cell), some (0, .bl ch), some (0, .int many), some (0, .int far), some (1, .lst (ks.map Kn.d)), some (0, .int (num + 1 + g X 3 % 3)), some (0, .tup [.int (wayE p.s r b cells).1, .int (wayE p.s r b cells).2]), some (0, .int (j : Int)), some (1, .lst (X.map .int)), some (0, .int first), some (0, .int (n : Int)), some (0, .lst (cells.map cellD)), some (0, late), x18, some (0, .int (i : Int))], 0, false, [some (0, .frl (ns.map .int)), some (0, p.d), some (0, p.s.d), some (0, .tup [.int ring, .int beat]), some (0, .int most), some (0, .int cell), some (0, .bl ch), some (0, .int many), some (0, .int far), some (1, .lst (ks.map Kn.d)), some (0, .int (num + 1 + g X 3 % 3)), some (0, .tup [.int (wayE p.s r b cells).1, .int (wayE p.s r b cells).2]), some (0, .int (j : Int)), some (1, .lst (X.map .int)), some (0, .int first), some (0, .int (n : Int)), some (0, .lst (cells.map cellD)), some (0, late), x18, some (0, .int (i : Int))], by simp, ?_, fun _ => by simp [wipeV], fun _ => ⟨0, [some (0, .frl (ns.map .int)), some (0, p.d), some (0, p.s.d), some (0, .tup [.int ring, .int beat]), some (0, .int most), some (0, .int cell), some (0, .bl ch), some (0, .int many), some (0, .int far), some (1, .lst (ks.map Kn.d)), some (0, .int (num + 1 + g X 3 % 3)), some (0, .tup [.int (wayE p.s r b cells).1, .int (wayE p.s r b cells).2]), some (0, .int (j : Int)), some (1, .lst (X.map .int)), some (0, .int first), some (0, .int (n : Int)), some (0, .lst (cells.map cellD)), some (0, late), x18, some (0, .int (i : Int))], by simp, by simp [wipeV]⟩⟩
      show _ = RE.ok ⟨0, false, .bl (fq (i : Int))⟩ _
      cases c1 : (g X 7 / (1 + (i : Int)) % 4 == 0) with
      | false => simp [fq, i7, od, c1]
      | true => simp [fq, i7, i8, od, c1]
  have ot : oTuple ⟨1, false, .lst (P.map .int)⟩ = some (pureV (.tup (P.map .int))) := by simp
  have e18 : (sAs 18 (e1 oTuple (eLc [19] (.nm 19) (iR1 (eVar 10)) (eAnd (e2 true (oEqD false) (e2 true oMod (e2 true oDiv (e2 true oIdx (eVar 13) (eC (.int 7))) (e2 true oAdd (eC (.int 1)) (eVar 19))) (eC (.int 4))) (eC (.int 0))) (e2 true (oEqD false) (e2 true oMod (e2 true oIdx (eVar 13) (eC (.int 8))) (eC (.int 3))) (eC (.int 0)))) (eUse 19)))) [some (0, .frl (ns.map .int)), some (0, p.d), some (0, p.s.d), some (0, .tup [.int ring, .int beat]), some (0, .int most), some (0, .int cell), some (0, .bl ch), some (0, .int many), some (0, .int far), some (1, .lst (ks.map Kn.d)), some (0, .int (num + 1 + g X 3 % 3)), some (0, .tup [.int (wayE p.s r b cells).1, .int (wayE p.s r b cells).2]), some (0, .int (j : Int)), some (1, .lst (X.map .int)), some (0, .int first), some (0, .int (n : Int)), some (0, .lst (cells.map cellD)), some (0, late), x18, none] = .nx [some (0, .frl (ns.map .int)), some (0, p.d), some (0, p.s.d), some (0, .tup [.int ring, .int beat]), some (0, .int most), some (0, .int cell), some (0, .bl ch), some (0, .int many), some (0, .int far), some (1, .lst (ks.map Kn.d)), some (0, .int (num + 1 + g X 3 % 3)), some (0, .tup [.int (wayE p.s r b cells).1, .int (wayE p.s r b cells).2]), some (0, .int (j : Int)), some (1, .lst (X.map .int)), some (0, .int first), some (0, .int (n : Int)), some (0, .lst (cells.map cellD)), some (0, late), some (0, .tup (P.map .int)), none] := by
    simp only [run_as, run_e1, run_lc, run_iR1, run_var]
    simp [-List.map_map, eq_true rb18, wipeV, ef]
  obtain ⟨wr, hw⟩ : ∃ wr : Bool, wr = (ch || (g X 2 % 3 == 0)) := ⟨_, rfl⟩
  let k1 : Kn := ⟨num + 1 + g X 3 % 3, first, n, wr, P, late, cells⟩
  have lb : ks.length < BIG := big1000 (by have := hk.len; omega)
  have e9 : (sApp true (lVar 9) (eTup [.ev (eUse 10), .ev (eUse 14), .ev (eUse 15), .ev (eOr (eVar 6) (e2 true (oEqD false) (e2 true oMod (e2 true oIdx (eVar 13) (eC (.int 2))) (eC (.int 3))) (eC (.int 0)))), .ev (eUse 18), .ev (eUse 17), .ev (eUse 16)])) [some (0, .frl (ns.map .int)), some (0, p.d), some (0, p.s.d), some (0, .tup [.int ring, .int beat]), some (0, .int most), some (0, .int cell), some (0, .bl ch), some (0, .int many), some (0, .int far), some (1, .lst (ks.map Kn.d)), some (0, .int (num + 1 + g X 3 % 3)), some (0, .tup [.int (wayE p.s r b cells).1, .int (wayE p.s r b cells).2]), some (0, .int (j : Int)), some (1, .lst (X.map .int)), some (0, .int first), some (0, .int (n : Int)), some (0, .lst (cells.map cellD)), some (0, late), some (0, .tup (P.map .int)), none] = .nx [some (0, .frl (ns.map .int)), some (0, p.d), some (0, p.s.d), some (0, .tup [.int ring, .int beat]), some (0, .int most), some (0, .int cell), some (0, .bl ch), some (0, .int many), some (0, .int far), some (1, .lst ((ks ++ [k1]).map Kn.d)), some (0, .int (num + 1 + g X 3 % 3)), some (0, .tup [.int (wayE p.s r b cells).1, .int (wayE p.s r b cells).2]), some (0, .int (j : Int)), some (1, .lst (X.map .int)), some (0, .int first), some (0, .int (n : Int)), some (0, .lst (cells.map cellD)), some (0, late), some (0, .tup (P.map .int)), none] := by
    rw [List.map_append, List.map_cons, List.map_nil]
    have ek : k1.d = .tup [.int (num + 1 + g X 3 % 3), .int first, .int n, .bl wr, .tup (P.map .int), late, .lst (cells.map cellD)] := rfl
    rw [ek, hw]
    cases ch
    · simp [-List.map_map, i2, lb]
    · simp [-List.map_map, i2, lb]
  refine ⟨k1, num + 1 + g X 3 % 3, (wayE p.s r b cells).1, (wayE p.s r b cells).2, some (1, .lst (X.map .int)), some (0, .int first), some (0, .int (n : Int)), some (0, .lst (cells.map cellD)), some (0, late), some (0, .tup (P.map .int)), ?_, ?_, by omega, g1, by omega⟩
  · rw [seq_nx e13, seq_nx e14a, seq_nx e14, seq_nx e15, seq_nx e10, seq_nx e16, seq_nx e11, seq_nx e17a, seq_nx e17, seq_nx e18]
    exact e9
  · have hkl := hk.len
    refine ⟨⟨fun k hkk => ?_, ?_, fun k hkk => ?_, by rw [List.length_append, List.length_singleton]; omega, fun k hkk => ?_⟩, fun k hkk => ?_, by rw [List.length_append, List.length_singleton]; omega⟩
    · rcases List.mem_append.mp hkk with q | q
      · exact hk.al.ok k q
      · rw [List.mem_singleton.mp q]
        refine ⟨f0, by show first + (n : Int) ≤ _; omega, by show first ≤ _; omega, ⟨n1.1, Nat.le_trans n1.2 (by decide)⟩, ?_, l3, by show cells.map cellD = cellsOf p first n; rw [‹cellsOf p first n = cells.map cellD›], k2⟩
        refine rise_of (by show P.Pairwise _; rw [hP]; exact up_range _ _) fun x hx => ?_
        have := hP1 x hx
        omega
    · rw [List.map_append, List.pairwise_append]
      refine ⟨hk.al.up, List.pairwise_singleton _ _, fun a ha b hb => ?_⟩
      obtain ⟨k, kk, rfl⟩ := List.mem_map.mp ha
      simp at hb
      rw [hb]
      have := hk.le k kk
      show k.num < num + 1 + g X 3 % 3
      omega
    · rcases List.mem_append.mp hkk with q | q
      · exact hk.al.nb k q
      · rw [List.mem_singleton.mp q]
        show 0 ≤ num + 1 + g X 3 % 3 ∧ num + 1 + g X 3 % 3 ≤ 40
        omega
    · rcases List.mem_append.mp hkk with q | q
      · exact hk.al.si k q
      · rw [List.mem_singleton.mp q]
        show cells.length ≤ 2
        omega
    · rcases List.mem_append.mp hkk with q | q
      · have := hk.le k q
        omega
      · rw [List.mem_singleton.mp q]
        exact Int.le_refl _
end Pd
end
section
namespace Pd
open PySem L2
theorem bind_st {ρ ρ' : Vr} {i : Nat} {d : D} (h : i < ρ.length) (e : ρ.set i (some (0, d)) = ρ') : bindT (.nm i) d ρ = some ρ' := by
  rw [bind_nm, if_pos h, e]
theorem knL {p : Pl} (h : PlFull p) (ns : List Int) {ring beat far : Int} (hr : 0 ≤ ring ∧ ring < p.s.cs.length) (hb : 0 ≤ beat ∧ beat < 1000000000000) (hf : 1 ≤ far ∧ far ≤ 2000000000) (most cell many : Int) (ch : Bool) : ∀ (m j : Nat) (ks : List Kn) (num r b : Int) (x12 x13 x14 x15 x16 x17 x18 : Slot),
    j + m ≤ 7 → KsP p ks num j → (-1 ≤ num ∧ num ≤ 3 * j - 1) → (0 ≤ r ∧ r < p.s.cs.length) → (0 ≤ b ∧ b ≤ 1000000000000 + 6000000000 * j) →
    ∃ (ks' : List Kn) (num' r' b' : Int) (y12 y13 y14 y15 y16 y17 y18 : Slot), forL (.nm 12) (sSeq (sAs 13 (eCall F__law_stream [] [.ev (e2 true oAdd (eCall F__law_cell_at [] [.ev (eUse 0), .ev (e2 true oAdd (eC (.int 6)) (eVar 12))]) (eVar 12)), .ev (eC (.int 9))])) (sSeq (sAs 14 (e2 false oMod (e2 true oIdx (eVar 13) (eC (.int 0))) (e2 true oIdx (eLst [.ev (eMeth (mt_total_1) .n_total (.io 1) []), .ev (e2 true oMin2 (eMeth (mt_total_1) .n_total (.io 1) []) (eC (.int 5)))]) (e2 true oMod (e2 true oDiv (eVar 5) (eC (.int 25))) (eC (.int 2)))))) (sSeq (sIf (eVar 6) (sAs 14 (e2 false oMul (e2 true oMod (e2 true oIdx (eVar 13) (eC (.int 0))) (eC (.int 2))) (e2 true oSub (eMeth (mt_total_1) .n_total (.io 1) []) (eC (.int 1))))) (sNil)) (sSeq (sAs 15 (e2 false oAdd (eC (.int 1)) (e2 false oMod (e2 true oIdx (eVar 13) (eC (.int 1))) (e2 false oMin2 (e2 true oSub (eC (.int 2)) (e1 oInt (eVar 6))) (e2 true oSub (eMeth (mt_total_1) .n_total (.io 1) []) (eVar 14)))))) (sSeq (sAs 10 (e2 true oAdd (e2 true oAdd (eVar 10) (eC (.int 1))) (e2 true oMod (e2 true oIdx (eVar 13) (eC (.int 3))) (eC (.int 3))))) (sSeq (sAs 16 (eLc [19] (.nm 19) (iR1 (eVar 15)) (eC (.bl true)) (eMeth (mt_cell_at_2) .n_cell_at (.io 1) [.ev (e2 true oAdd (eVar 14) (eVar 19))]))) (sSeq (sAs 11 (eCall F__law_behind_way [] [.ev (eUse 2), .ev (e2 true oIdx (eVar 11) (eC (.int 0))), .ev (e2 true oIdx (eVar 11) (eC (.int 1))), .ev (eUse 16)])) (sSeq (sAs 17 (e2 true oIdx (eLst [.ev (eC (.non)), .ev (e2 true oSub (e2 true oIdx (eVar 11) (eC (.int 1))) (e2 true oMod (e2 true oIdx (eVar 13) (eC (.int 6))) (eC (.int 2))))]) (e2 true oMod (e2 true oIdx (eVar 13) (eC (.int 4))) (eC (.int 2))))) (sSeq (sIf (e2 true (oB0 fun i j => decide (j < i)) (e2 true oMod (e2 true oIdx (eVar 13) (eC (.int 4))) (eC (.int 4))) (eC (.int 1))) (sAs 17 (e2 true oAdd (e2 true oIdx (eVar 3) (eC (.int 1))) (e2 true oMod (e2 true oIdx (eVar 13) (eC (.int 5))) (e2 true oAdd (eC (.int 1)) (e2 true oMul (eVar 8) (e2 true oAdd (eC (.int 1)) (e2 true oMod (e2 true oIdx (eVar 13) (eC (.int 6))) (e2 true oIdx (eLst [.ev (eC (.int 4)), .ev (eC (.int 9))]) (e1 oInt (eVar 6)))))))))) (sNil)) (sSeq (sAs 18 (e1 oTuple (eLc [19] (.nm 19) (iR1 (eVar 10)) (eAnd (e2 true (oEqD false) (e2 true oMod (e2 true oDiv (e2 true oIdx (eVar 13) (eC (.int 7))) (e2 true oAdd (eC (.int 1)) (eVar 19))) (eC (.int 4))) (eC (.int 0))) (e2 true (oEqD false) (e2 true oMod (e2 true oIdx (eVar 13) (eC (.int 8))) (eC (.int 3))) (eC (.int 0)))) (eUse 19)))) (sApp true (lVar 9) (eTup [.ev (eUse 10), .ev (eUse 14), .ev (eUse 15), .ev (eOr (eVar 6) (e2 true (oEqD false) (e2 true oMod (e2 true oIdx (eVar 13) (eC (.int 2))) (eC (.int 3))) (eC (.int 0)))), .ev (eUse 18), .ev (eUse 17), .ev (eUse 16)])))))))))))) ((List.range' j m).map fun i : Nat => D.int (i : Int)) [some (0, .frl (ns.map .int)), some (0, p.d), some (0, p.s.d), some (0, .tup [.int ring, .int beat]), some (0, .int most), some (0, .int cell), some (0, .bl ch), some (0, .int many), some (0, .int far), some (1, .lst (ks.map Kn.d)), some (0, .int (num)), some (0, .tup [.int r, .int b]), x12, x13, x14, x15, x16, x17, x18, none] = .nx [some (0, .frl (ns.map .int)), some (0, p.d), some (0, p.s.d), some (0, .tup [.int ring, .int beat]), some (0, .int most), some (0, .int cell), some (0, .bl ch), some (0, .int many), some (0, .int far), some (1, .lst ((ks').map Kn.d)), some (0, .int (num')), some (0, .tup [.int r', .int b']), y12, y13, y14, y15, y16, y17, y18, none] ∧ KsOk p ks' ∧ ks'.length = j + m
  | 0, j, ks, num, r, b, x12, x13, x14, x15, x16, x17, x18, _, hk, _, _, _ => ⟨ks, num, r, b, x12, x13, x14, x15, x16, x17, x18, rfl, hk.al, hk.len⟩
  | m + 1, j, ks, num, r, b, x12, x13, x14, x15, x16, x17, x18, hl, hk, hn, hrr, hbb => by
    obtain ⟨k1, num1, r1, b1, z13, z14, z15, z16, z17, z18, e1, q1, q2, q3, q4⟩ := knS h ns hr hb hf most cell many ch j ks num r b x13 x14 x15 x16 x17 x18 (by omega) hk hn hrr hbb
    obtain ⟨ks', num', r', b', y12, y13, y14, y15, y16, y17, y18, e2, g1, g2⟩ := knL h ns hr hb hf most cell many ch m (j + 1) (ks ++ [k1]) num1 r1 b1 (some (0, .int (j : Int))) z13 z14 z15 z16 z17 z18 (by omega) q1 q2 q3 q4
    refine ⟨ks', num', r', b', y12, y13, y14, y15, y16, y17, y18, ?_, g1, by omega⟩
    rw [List.range'_succ, List.map_cons, forL_nx (bind_st (by simp) rfl) e1]
    exact e2
theorem ks_nil {p : Pl} : KsOk p [] := ⟨fun k hk => (by cases hk), .nil, fun k hk => (by cases hk), by simp, fun k hk => (by cases hk)⟩
theorem law_known_k {p : Pl} (h : PlFull p) (ns : List Int) {ring beat : Int} (hr : 0 ≤ ring ∧ ring < p.s.cs.length) (hb : 0 ≤ beat ∧ beat < 1000000000000) {most : Int} (hm : 1 ≤ most ∧ most ≤ 7) :
    ∃ ks, KsOk p ks ∧ F__law_known [pureV (.frl (ns.map .int)), pureV p.d, pureV p.s.d, pureV (.tup [.int ring, .int beat]), pureV (.int most)] = .ok ⟨1, false, .lst (ks.map Kn.d)⟩ [none, none, none, none, none] := by
  obtain ⟨cell, hcell⟩ : ∃ cell, cell = cellAt ns 5 := ⟨_, rfl⟩
  have ec : F__law_cell_at [pureV (.frl (ns.map .int)), pureV (.int 5)] = .ok (pureV (.int cell)) [none, none] := by rw [hcell]; exact F_cell_at ns 5
  obtain ⟨ch, hch⟩ : ∃ ch : Bool, ch = (cell / 50 % 8 == 1) := ⟨_, rfl⟩
  have om : oMod ⟨0, false, .int cell⟩ ⟨0, false, .int most⟩ = some (pureV (.int (cell % most))) := oMod_i (by omega)
  have od : oDiv ⟨0, false, .int cell⟩ ⟨0, false, .int most⟩ = some (pureV (.int (cell / most))) := oDiv_i (by omega) (by omega)
  have c1 := Int.emod_nonneg cell (show most ≠ 0 by omega)
  have c2 := Int.emod_lt_of_pos cell (show 0 < most by omega)
  obtain ⟨mb, hmb⟩ : ∃ mb : Bool, mb = (cell / most % 5 == 1) := ⟨_, rfl⟩
  have oi : oInt ⟨0, false, .bl mb⟩ = some (pureV (.int (if mb = true then 1 else 0))) := rfl
  obtain ⟨m0, am, m1, m2⟩ : ∃ m0 : Int, atI [D.int (cell % most), D.int most] (if mb = true then 1 else 0) = some (.int m0) ∧ 0 ≤ m0 ∧ m0 ≤ 7 := by
    cases mb
    · exact ⟨cell % most, rfl, c1, by omega⟩
    · exact ⟨most, rfl, by omega, hm.2⟩
  obtain ⟨many, hmany⟩ : ∃ many : Int, many = if ch = true then 6 + cell / 400 % 2 else m0 := ⟨_, rfl⟩
  have mm : 0 ≤ many ∧ many ≤ 7 := by
    rw [hmany]
    cases ch <;> simp <;> omega
  have hl := h.full.ok.lb
  have hnb := h.full.ok.nb
  have hwl := h.full.ok.wl
  obtain ⟨wn, hwn⟩ : ∃ wn : Nat, p.s.sw.length = wn + 1 := ⟨p.s.sw.length - 1, by omega⟩
  have al := atI_last hwn
  have wb : 1 ≤ g p.s.sw wn ∧ g p.s.sw wn ≤ 1000000000 := h.full.sw.b wn (by omega) (by omega)
  have i2 : atI [p.s.zones, .lst (p.s.cs.map .int), .int p.s.lap, .int p.s.skew, .lst (p.s.sw.map .int)] 2 = some (.int p.s.lap) := rfl
  have i4 : atI [p.s.zones, .lst (p.s.cs.map .int), .int p.s.lap, .int p.s.skew, .lst (p.s.sw.map .int)] 4 = some (.lst (p.s.sw.map .int)) := rfl
  obtain ⟨ks, num', r', b', y12, y13, y14, y15, y16, y17, y18, e1, g1, g2⟩ := knL h ns hr hb (far := p.s.lap + g p.s.sw wn) (by omega) most cell many ch many.toNat 0 [] (-1) ring beat none none none none none none none (by omega) ⟨ks_nil, fun k hk => (by cases hk), rfl⟩ (by omega) hr (by omega)
  simp only [List.map_nil] at e1
  have rbm : RB many := by unfold RB; omega
  obtain ⟨kb, hkb, eb⟩ := law_beside_k h (beat := beat) hr (cell / 25600)
  have fin : ∀ ks0, KsOk p ks0 → ∃ ks, KsOk p ks ∧ (if (cell / 800 % 4 == 1) = true then F__law_tight [pureV p.s.d, pureV (.tup [.int ring, .int beat]), ⟨1, false, .lst (ks0.map Kn.d)⟩] = .ok ⟨1, false, .lst (ks.map Kn.d)⟩ [none, none, some (0, .lst (ks0.map Kn.d))] else ks = ks0) := fun ks0 h0 => by
    by_cases c : (cell / 800 % 4 == 1) = true
    · obtain ⟨kt, t1, t2⟩ := law_tight_k h h0 (beat := beat) hr (by omega)
      exact ⟨kt, t1, by rw [if_pos c]; exact t2⟩
    · exact ⟨ks0, h0, by rw [if_neg c]⟩
  obtain ⟨kz, hz, ez⟩ := fin (if (cell / 3200 % 8 == 1) = true then kb else ks) (by split <;> assumption)
  refine ⟨kz, hz, ?_⟩
  have hmE : ((if ch = true then 6 + cell / 400 % 2 else m0) : Int) = many := hmany.symm
  have imd : immut p.s.d = true := rfl
  have x2 : oIdx ⟨0, false, p.s.d⟩ ⟨0, false, .int 2⟩ = some (pureV (.int p.s.lap)) := by unfold Sp.d; simp [i2]
  have x4 : oIdx ⟨0, false, p.s.d⟩ ⟨0, false, .int 4⟩ = some (pureV (.lst (p.s.sw.map .int))) := by unfold Sp.d; simp [i4]
  unfold F__law_known runFn c__law_known
  by_cases ct : (cell / 800 % 4 == 1) = true
  · rw [if_pos ct] at ez
    by_cases cb : (cell / 3200 % 8 == 1) = true
    · rw [if_pos cb] at ez
      cases ch
      · have hmE' : m0 = many := by simpa using hmE
        rw [hmE'] at am
        simp [-List.map_map, enter, ec, ← hch, ← hmb, om, od, oi, am, imd, x2, x4, al, eq_true rbm, rng0, e1, ct, cb, eb, ez]
      · have hmE' : 6 + cell / 400 % 2 = many := by simpa using hmE
        simp [-List.map_map, enter, ec, ← hch, ← hmb, om, od, oi, am, hmE', imd, x2, x4, al, eq_true rbm, rng0, e1, ct, cb, eb, ez]
    · rw [if_neg cb] at ez
      have cb' : (cell / 3200 % 8 == 1) = false := by simpa using cb
      cases ch
      · have hmE' : m0 = many := by simpa using hmE
        rw [hmE'] at am
        simp [-List.map_map, enter, ec, ← hch, ← hmb, om, od, oi, am, imd, x2, x4, al, eq_true rbm, rng0, e1, ct, cb', eb, ez]
      · have hmE' : 6 + cell / 400 % 2 = many := by simpa using hmE
        simp [-List.map_map, enter, ec, ← hch, ← hmb, om, od, oi, am, hmE', imd, x2, x4, al, eq_true rbm, rng0, e1, ct, cb', eb, ez]
  · have ct' : (cell / 800 % 4 == 1) = false := by simpa using ct
    rw [if_neg ct] at ez
    subst ez
    by_cases cb : (cell / 3200 % 8 == 1) = true
    · cases ch
      · have hmE' : m0 = many := by simpa using hmE
        rw [hmE'] at am
        simp [-List.map_map, enter, ec, ← hch, ← hmb, om, od, oi, am, imd, x2, x4, al, eq_true rbm, rng0, e1, ct', cb, eb]
      · have hmE' : 6 + cell / 400 % 2 = many := by simpa using hmE
        simp [-List.map_map, enter, ec, ← hch, ← hmb, om, od, oi, am, hmE', imd, x2, x4, al, eq_true rbm, rng0, e1, ct', cb, eb]
    · have cb' : (cell / 3200 % 8 == 1) = false := by simpa using cb
      cases ch
      · have hmE' : m0 = many := by simpa using hmE
        rw [hmE'] at am
        simp [-List.map_map, enter, ec, ← hch, ← hmb, om, od, oi, am, imd, x2, x4, al, eq_true rbm, rng0, e1, ct', cb', eb]
      · have hmE' : 6 + cell / 400 % 2 = many := by simpa using hmE
        simp [-List.map_map, enter, ec, ← hch, ← hmb, om, od, oi, am, hmE', imd, x2, x4, al, eq_true rbm, rng0, e1, ct', cb', eb]
end Pd
end
section
namespace Pd
open PySem L2
theorem due_init_q {p : Pl} {k : Kn} (hp : PlOk p) (h : KnOk p k) (cell num : Int) {q : Nat} : F_DueUU_initUU [⟨1, false, .ins .n_Due [] []⟩, pureV p.d, pureV (.int num), ⟨q, false, askOf k cell⟩] = .ok (pureV .non) [some (1, dueD num (askOf k cell) (k.cells.map cellD)), none, none, none] := by
  have q := numbered_k hp h cell num
  unfold F_DueUU_initUU runFn c_DueUU_initUU
  simp [enter, q, putNs, putDs, dueD]
theorem lcD {α : Type} {vs : List Nat} {iv : Nat} {fe : EF} {ρ : Vr} (el : α → D) (out : α → D) : ∀ (ks : List α) (acc : List D), acc.length + ks.length ≤ BIG →
    (∀ k ∈ ks, ∃ q ρ1 ρ3, bindT (.nm iv) (el k) ρ = some ρ1 ∧ fe ρ1 = .ok ⟨q, false, out k⟩ ρ3 ∧ wipeV ρ3 vs = ρ) →
    compL vs (.nm iv) (eC (.bl true)) fe (ks.map el) acc ρ = .ok ⟨1, false, .lst (acc ++ ks.map out)⟩ ρ
  | [], acc, _, _ => by simp [compL]
  | k :: ks, acc, hl, he => by
    obtain ⟨q, ρ1, ρ3, e1, e2, e3⟩ := he k List.mem_cons_self
    rw [List.length_cons] at hl
    have ih := lcD (vs := vs) (iv := iv) (fe := fe) (ρ := ρ) el out ks (acc ++ [out k]) (by rw [List.length_append, List.length_singleton]; omega) fun x hx => he x (List.mem_cons_of_mem _ hx)
    rw [List.map_cons]
    unfold compL
    have hb : acc.length < BIG := by omega
    rw [e1]
    simp [e2, e3, hb]
    simpa using ih
theorem law_start_k (ns : List Int) {most : Int} (hm : 1 ≤ most ∧ most ≤ 7) : ∃ (p : Pl) (ring beat : Int) (ks : List Kn), PlFull p ∧ KsOk p ks ∧ (0 ≤ ring ∧ ring < p.s.cs.length) ∧ (0 ≤ beat ∧ beat < 1000000000000) ∧
    F__law_start [pureV (.frl (ns.map .int)), pureV (.int most)] = .ok (pureV (.tup [p.s.d, p.d, .int ring, .int beat, .lst (ks.map Kn.d), .lst (ks.map (dueOf fun k => cellAt ns 12 + k.num))])) [none, none] := by
  obtain ⟨s, hs, es⟩ := law_spec_k (cellAt ns 0) (cellAt ns 1)
  obtain ⟨p, q, rfl, hp, ep⟩ := law_plate_k hs (cellAt ns 2)
  have c0 : F__law_cell_at [pureV (.frl (ns.map .int)), pureV (.int 0)] = .ok (pureV (.int (cellAt ns 0))) [none, none] := F_cell_at ns 0
  have c1 : F__law_cell_at [pureV (.frl (ns.map .int)), pureV (.int 1)] = .ok (pureV (.int (cellAt ns 1))) [none, none] := F_cell_at ns 1
  have c2 : F__law_cell_at [pureV (.frl (ns.map .int)), pureV (.int 2)] = .ok (pureV (.int (cellAt ns 2))) [none, none] := F_cell_at ns 2
  have c3 : F__law_cell_at [pureV (.frl (ns.map .int)), pureV (.int 3)] = .ok (pureV (.int (cellAt ns 3))) [none, none] := F_cell_at ns 3
  have c4 : F__law_cell_at [pureV (.frl (ns.map .int)), pureV (.int 4)] = .ok (pureV (.int (cellAt ns 4))) [none, none] := F_cell_at ns 4
  have c12 : F__law_cell_at [pureV (.frl (ns.map .int)), pureV (.int 12)] = .ok (pureV (.int (cellAt ns 12))) [none, none] := F_cell_at ns 12
  have hnb := hp.full.ok.nb
  let ring : Int := cellAt ns 3 % p.s.cs.length
  have r1 : 0 ≤ ring := Int.emod_nonneg _ (by omega)
  have r2 : ring < p.s.cs.length := Int.emod_lt_of_pos _ (by omega)
  have o1 : oMod ⟨0, false, .int (cellAt ns 3)⟩ ⟨0, false, .int (p.s.cs.length : Int)⟩ = some (pureV (.int ring)) := oMod_i (by omega)
  obtain ⟨w, w1, w2, w3⟩ : ∃ w : Int, atI [D.int 10000, D.int 1000000000000] (cellAt ns 3 / 16 % 2) = some (.int w) ∧ 1 ≤ w ∧ w ≤ 1000000000000 := by
    have : cellAt ns 3 / 16 % 2 = 0 ∨ cellAt ns 3 / 16 % 2 = 1 := by omega
    rcases this with q | q <;> rw [q]
    · exact ⟨10000, rfl, by decide, by decide⟩
    · exact ⟨1000000000000, rfl, by decide, by decide⟩
  let beat : Int := cellAt ns 4 % w
  have b1 : 0 ≤ beat := Int.emod_nonneg _ (by omega)
  have b2 : beat < w := Int.emod_lt_of_pos _ (by omega)
  have o2 : oMod ⟨0, false, .int (cellAt ns 4)⟩ ⟨0, false, .int w⟩ = some (pureV (.int beat)) := oMod_i (by omega)
  obtain ⟨ks, hk, ek⟩ := law_known_k hp ns ⟨r1, r2⟩ (beat := beat) ⟨b1, by omega⟩ hm
  refine ⟨p, ring, beat, ks, hp, hk, ⟨r1, r2⟩, ⟨b1, by omega⟩, ?_⟩
  have p4 : oPow ⟨0, false, .int 10⟩ ⟨0, false, .int 4⟩ = some (pureV (.int 10000)) := by rw [oPow_i (by decide)]; rfl
  have p12 : oPow ⟨0, false, .int 10⟩ ⟨0, false, .int 12⟩ = some (pureV (.int 1000000000000)) := by rw [oPow_i (by decide)]; rfl
  have x1 : oIdx ⟨0, false, p.s.d⟩ ⟨0, false, .int 1⟩ = some (pureV (.lst (p.s.cs.map .int))) := rfl
  have imd : immut p.s.d = true := rfl
  have lc := lcD (vs := [8]) (iv := 8) (fe := (eMake .n_Due 0 F_DueUU_initUU [] [.ev (eUse 3), .ev (e2 true oIdx (eVar 8) (eC (.int 0))), .ev (eCall F__law_ask [] [.ev (eUse 8), .ev (e2 true oAdd (eCall F__law_cell_at [] [.ev (eUse 0), .ev (eC (.int 12))]) (e2 true oIdx (eVar 8) (eC (.int 0))))])])) (ρ := [some (0, .frl (ns.map .int)), some (0, .int most), some (0, p.s.d), some (0, p.d), some (0, .int ring), some (0, .int beat), some (0, .lst (ks.map Kn.d)), none, none]) Kn.d (dueOf fun k => cellAt ns 12 + k.num) ks [] (by have := hk.len; exact Nat.le_of_lt (big1000 (by simp; omega))) (fun k hkk => by
    have la := law_ask_k (hk.ok k hkk) (cellAt ns 12 + k.num)
    have di := due_init_q hp.ok (hk.ok k hkk) (cellAt ns 12 + k.num) k.num (q := 1)
    have x0 : oIdx ⟨0, false, k.d⟩ ⟨0, false, .int 0⟩ = some (pureV (.int k.num)) := rfl
    have imk : immut k.d = true := rfl
    refine ⟨1, [some (0, .frl (ns.map .int)), some (0, .int most), some (0, p.s.d), some (0, p.d), some (0, .int ring), some (0, .int beat), some (0, .lst (ks.map Kn.d)), none, some (0, k.d)], [some (0, .frl (ns.map .int)), some (0, .int most), some (0, p.s.d), some (0, p.d), some (0, .int ring), some (0, .int beat), some (0, .lst (ks.map Kn.d)), none, some (0, k.d)], bind_st (by simp) rfl, ?_, by simp [wipeV]⟩
    simp [imk, x0, c12, la, di, dueOf])
  rw [List.nil_append] at lc
  unfold F__law_start runFn c__law_start
  simp [-List.map_map, enter, c0, c1, c2, c3, c4, es, ep, imd, x1, o1, p4, p12, w1, o2, ek, run_lc, wipeV, lc]
end Pd
end
section
namespace Pd
open PySem L2
/-! who keeps behind whom -/
theorem lcFG {α : Type} {vs : List Nat} {iv : Nat} {ft fe : EF} {ρ : Vr} (el : α → D) (p : α → Bool) (out : α → D) : ∀ (ks : List α) (acc : List D), acc.length + ks.length ≤ BIG →
    (∀ k ∈ ks, ∃ ρ1 q b ρ2, bindT (.nm iv) (el k) ρ = some ρ1 ∧ ft ρ1 = .ok ⟨q, b, .bl (p k)⟩ ρ2 ∧ (p k = false → wipeV ρ2 vs = ρ) ∧ (p k = true → ∃ q ρ3, fe ρ2 = .ok ⟨q, false, out k⟩ ρ3 ∧ wipeV ρ3 vs = ρ)) →
    compL vs (.nm iv) ft fe (ks.map el) acc ρ = .ok ⟨1, false, .lst (acc ++ (ks.filter p).map out)⟩ ρ
  | [], acc, _, _ => by simp [compL]
  | k :: ks, acc, hl, he => by
    obtain ⟨ρ1, q, b, ρ2, e1, e2, h1, h2⟩ := he k List.mem_cons_self
    rw [List.length_cons] at hl
    rw [List.map_cons]
    unfold compL
    rw [e1]
    dsimp only
    rw [e2]
    cases hp : p k with
    | false =>
      dsimp only
      rw [h1 hp, lcFG el p out ks acc (by omega) fun x hx => he x (List.mem_cons_of_mem _ hx), List.filter_cons_of_neg (by simp [hp])]
    | true =>
      obtain ⟨q3, ρ3, e3, e4⟩ := h2 hp
      dsimp only
      rw [e3]
      dsimp only
      rw [if_pos ⟨rfl, by omega⟩, e4, lcFG el p out ks (acc ++ [out k]) (by rw [List.length_append, List.length_singleton]; omega) fun x hx => he x (List.mem_cons_of_mem _ hx), List.filter_cons_of_pos hp, List.map_cons, List.append_assoc]
      rfl
def kindOf (k : Kn) : Str := if k.w = true then "write" else "read"
theorem askOf_kind (k : Kn) (cell : Int) : ∃ marks early, askOf k cell = askD (kindOf k) k.first k.size marks (cell % 1000000000000) (cell % 21) k.late (.tup (k.beh.map .int)) early := by
  unfold askOf kindOf
  cases k.w
  · exact ⟨_, _, rfl⟩
  · exact ⟨_, _, rfl⟩
section
variable {kind : Str} {first many at_ asker : Int} {marks latest behind : D} {early : Bool} {m : Nat} {b : Bool}
theorem fa_kind : oFld ft .n_kind ⟨m, b, askD kind first many marks at_ asker latest behind early⟩ = some (pureV (.str kind)) := by
  have e1 : Nm.n_kind ∈ ft .n_Ask := by decide
  simp [askD, oFld, lookN, e1, part, immut]
theorem fa_behind {bs : List D} : oFld ft .n_behind ⟨m, b, askD kind first many marks at_ asker latest (.tup bs) early⟩ = some (pureV (.tup bs)) := by
  have e1 : Nm.n_behind ∈ ft .n_Ask := by decide
  simp [askD, oFld, lookN, e1, part, immut]
end
theorem fd_ask {b : Bool} {num : Int} {ask : D} {cells : List D} : oFld ft .n_ask ⟨0, b, dueD num ask cells⟩ = some (pureV ask) := by
  simp [dueD, oFld, lookN]
theorem eqv_str (neg : Bool) (q q' : Nat) (b b' : Bool) (x y : Str) (hx : PyData.strOk x = true) (hy : PyData.strOk y = true) : oEqD neg ⟨q, b, .str x⟩ ⟨q', b', .str y⟩ = some (pureV (.bl (decide (x = y) != neg))) := by
  unfold oEqD
  have s1 : ∀ z : Str, PyData.strOk z = true → SeqAt.shaped (.str z) = true := fun z hz => by simp [SeqAt.shaped, PyData.canLay0, PyData.depth, hz]
  simp only [pyd, Option.bind_some, s1 x hx, s1 y hy, and_self, if_true]
  congr 3
theorem kind_ne {k : Kn} {q q' : Nat} {b b' : Bool} : oEqD true ⟨q, b, .str (kindOf k)⟩ ⟨q', b', .str "write"⟩ = some (pureV (.bl (!k.w))) := by
  rw [eqv_str _ _ _ _ _ _ _ (by unfold kindOf; split <;> decide +kernel) (by decide +kernel)]
  congr 3
  unfold kindOf
  cases k.w
  · decide +kernel
  · decide +kernel
def clashB (k o : Kn) : Bool := (k.w || o.w) && (decide (k.first < o.first + o.size) && decide (o.first < k.first + k.size))
def keepsB (k o : Kn) : Bool := decide (o.num < k.num) && (decide (o.num ∈ k.beh) || clashB k o)
theorem clash_k (k o : Kn) (c c' : Int) : F_clash [pureV (askOf k c), pureV (askOf o c')] = .ok (pureV (.bl (clashB k o))) [none, none] := by
  obtain ⟨m1, y1, e1⟩ := askOf_kind k c
  obtain ⟨m2, y2, e2⟩ := askOf_kind o c'
  unfold F_clash runFn c_clash clashB
  rw [e1, e2]
  have i1 : ∀ marks early, immut (askD (kindOf k) k.first k.size marks (c % 1000000000000) (c % 21) k.late (.tup (k.beh.map .int)) early) = false := fun _ _ => rfl
  cases hk : k.w with
  | false =>
    cases ho : o.w with
    | false => simp [enter, fa_kind, kind_ne, hk, ho]
    | true =>
      by_cases h1 : k.first < o.first + o.size
      · simp [enter, fa_kind, fa_first, fa_many, kind_ne, hk, ho, h1]
      · simp [enter, fa_kind, fa_first, fa_many, kind_ne, hk, ho, h1]
  | true =>
    by_cases h1 : k.first < o.first + o.size
    · simp [enter, fa_kind, fa_first, fa_many, kind_ne, hk, h1]
    · simp [enter, fa_kind, fa_first, fa_many, kind_ne, hk, h1]
theorem fvL_ints : ∀ ns : List Int, fvL (ns.map .int) = some (ns.map V.int)
  | [] => rfl
  | n :: ns => by
    rw [List.map_cons, List.map_cons]
    unfold fvL
    rw [fvL_ints ns]
    rfl
theorem inV_ints (n : Int) : ∀ ns : List Int, inV (.int n) (ns.map V.int) = decide (n ∈ ns)
  | [] => rfl
  | x :: ns => by
    have ih := inV_ints n ns
    unfold inV at ih ⊢
    rw [List.map_cons, List.any_cons, ih]
    have e : eqV (.int x) (.int n) = decide (x = n) := by
      show (x == n) = _
      by_cases h : x = n <;> simp [h]
    rw [e]
    by_cases h : n = x
    · subst h; simp
    · have h' : ¬ (x = n) := fun e => h e.symm
      simp [h, h']
theorem oInS_ints (neg : Bool) (q q' : Nat) (b b' : Bool) (n : Int) (ns : List Int) : oInS neg ⟨q, b, .int n⟩ ⟨q', b', .tup (ns.map .int)⟩ = some (pureV (.bl (if neg then !decide (n ∈ ns) else decide (n ∈ ns)))) := by
  unfold oInS
  simp only [fv, sqOf, Option.bind_some, fvL_ints, Option.map_some, inV_ints]
theorem keeps_behind_k (k o : Kn) (f f' : Kn → Int) : F_keeps_behind [pureV (dueOf f k), pureV (dueOf f' o)] = .ok (pureV (.bl (keepsB k o))) [none, none] := by
  obtain ⟨m1, y1, e1⟩ := askOf_kind k (f k)
  have ec := clash_k k o (f k) (f' o)
  have fb : oFld ft .n_behind ⟨0, false, askOf k (f k)⟩ = some (pureV (.tup (k.beh.map .int))) := by rw [e1]; exact fa_behind
  have im : immut (askOf k (f k)) = false := by rw [e1]; rfl
  unfold F_keeps_behind runFn c_keeps_behind keepsB
  by_cases h1 : o.num < k.num
  · have h1' : ¬ (k.num ≤ o.num) := by omega
    by_cases h2 : o.num ∈ k.beh
    · simp [enter, dueOf, imm_due, fd_number, fd_ask, h1, h1', fb, oInS_ints, h2]
    · simp [enter, dueOf, imm_due, fd_number, fd_ask, h1, h1', fb, oInS_ints, h2, ec]
  · have h1' : (k.num ≤ o.num) := by omega
    simp [enter, dueOf, imm_due, fd_number, fd_ask, h1, h1']
theorem law_keeps_k (k o : Kn) : F__law_keeps [pureV k.d, pureV o.d] = .ok (pureV (.bl (keepsB k o))) [none, none] := by
  unfold F__law_keeps runFn c__law_keeps keepsB clashB Kn.d
  by_cases h1 : o.num < k.num
  · have h1' : ¬ (k.num ≤ o.num) := by omega
    by_cases h2 : o.num ∈ k.beh
    · simp [enter, it0, it1, it2, it3, it4, h1, h1', oInS_ints, h2]
    · cases hk : k.w with
      | true =>
        by_cases h3 : k.first < o.first + o.size
        · simp [enter, it0, it1, it2, it3, it4, h1, h1', oInS_ints, h2, hk, h3]
        · simp [enter, it0, it1, it2, it3, it4, h1, h1', oInS_ints, h2, hk, h3]
      | false =>
        cases ho : o.w with
        | true =>
          by_cases h3 : k.first < o.first + o.size
          · simp [enter, it0, it1, it2, it3, it4, h1, h1', oInS_ints, h2, hk, ho, h3]
          · simp [enter, it0, it1, it2, it3, it4, h1, h1', oInS_ints, h2, hk, ho, h3]
        | false => simp [enter, it0, it1, it2, it3, it4, h1, h1', oInS_ints, h2, hk, ho]
  · have h1' : (k.num ≤ o.num) := by omega
    simp [enter, it0, it1, it2, it3, it4, h1, h1']
/-! who may be next -/
def freeB1 (ks : List Kn) (k : Kn) : Bool := (ks.filter (keepsB k)).isEmpty
def freeK (ks : List Kn) : List Int := (ks.filter (freeB1 ks)).map Kn.num
theorem isEmpty_map {α β : Type} (f : α → β) (l : List α) : (l.map f).isEmpty = l.isEmpty := by cases l <;> rfl
theorem mayL (f : Kn → Int) (ks : List Kn) (hl : ks.length ≤ 100) : ∀ (rest : List Kn) (acc : List Int) (x2 : Slot), acc.length + rest.length ≤ 100 → ∃ y2 : Slot, forL (.nm 2) (sIf (e2 true (oEqN false) (eLc [3] (.nm 3) (iA (eUse 0)) (eCall F_keeps_behind [] [.ev (eUse 2), .ev (eUse 3)]) (eUse 3)) (eLst [])) (sApp true (lVar 1) (eFld ft .n_number (eVar 2))) (sNil))
      (rest.map (dueOf f)) [some (0, .lst (ks.map (dueOf f))), some (1, .lst (acc.map .int)), x2, none] = .nx [some (0, .lst (ks.map (dueOf f))), some (1, .lst ((acc ++ (rest.filter (freeB1 ks)).map Kn.num).map .int)), y2, none]
  | [], acc, x2, _ => ⟨x2, by simp [forL]⟩
  | k :: rest, acc, x2, hla => by
    rw [List.length_cons] at hla
    have lb : acc.length < BIG := big1000 (by omega)
    have lc := lcFG (vs := [3]) (iv := 3) (ft := eCall F_keeps_behind [] [.ev (eUse 2), .ev (eUse 3)]) (fe := eUse 3) (ρ := [some (0, .lst (ks.map (dueOf f))), some (1, .lst (acc.map .int)), some (0, dueOf f k), none]) (dueOf f) (keepsB k) (dueOf f) ks [] (Nat.le_of_lt (big1000 (by simp; omega))) (fun o _ => by
      refine ⟨[some (0, .lst (ks.map (dueOf f))), some (1, .lst (acc.map .int)), some (0, dueOf f k), some (0, dueOf f o)], 0, false, [some (0, .lst (ks.map (dueOf f))), some (1, .lst (acc.map .int)), some (0, dueOf f k), some (0, dueOf f o)], by simp, ?_, fun _ => by simp [wipeV], fun _ => ⟨0, [some (0, .lst (ks.map (dueOf f))), some (1, .lst (acc.map .int)), some (0, dueOf f k), some (0, dueOf f o)], by simp, by simp [wipeV]⟩⟩
      have := keeps_behind_k k o f f
      simp [this])
    rw [List.nil_append] at lc
    have fn0 : oFld ft .n_number ⟨0, false, dueOf f k⟩ = some (pureV (.int k.num)) := fd_number
    rw [List.map_cons]
    by_cases hf : freeB1 ks k = true
    · obtain ⟨y2, e⟩ := mayL f ks hl rest (acc ++ [k.num]) (some (0, dueOf f k)) (by rw [List.length_append, List.length_singleton]; omega)
      refine ⟨y2, ?_⟩
      rw [forL_nx (ρ1 := [some (0, .lst (ks.map (dueOf f))), some (1, .lst (acc.map .int)), some (0, dueOf f k), none]) (by simp) (ρ2 := [some (0, .lst (ks.map (dueOf f))), some (1, .lst ((acc ++ [k.num]).map .int)), some (0, dueOf f k), none])]
      · rw [e, List.filter_cons_of_pos hf, List.map_cons, List.append_assoc]; rfl
      · have hf' : (ks.filter (keepsB k)).isEmpty = true := hf
        simp [-List.map_map, run_lc, wipeV, lc, isEmpty_map, hf', fn0, lb]
    · have hf1 : freeB1 ks k = false := by simpa using hf
      obtain ⟨y2, e⟩ := mayL f ks hl rest acc (some (0, dueOf f k)) (by omega)
      refine ⟨y2, ?_⟩
      rw [forL_nx (ρ1 := [some (0, .lst (ks.map (dueOf f))), some (1, .lst (acc.map .int)), some (0, dueOf f k), none]) (by simp) (ρ2 := [some (0, .lst (ks.map (dueOf f))), some (1, .lst (acc.map .int)), some (0, dueOf f k), none])]
      · rw [e, List.filter_cons_of_neg (by simp [hf1])]
      · have hf' : (ks.filter (keepsB k)).isEmpty = false := hf1
        simp [-List.map_map, run_lc, wipeV, lc, isEmpty_map, hf']
theorem may_be_next_k (f : Kn → Int) (ks : List Kn) (hl : ks.length ≤ 100) {q : Nat} (hq : q ≤ 1) : F_may_be_next [⟨q, false, .lst (ks.map (dueOf f))⟩] = .ok ⟨1, false, .lst ((freeK ks).map .int)⟩ [none] := by
  obtain ⟨y2, e⟩ := mayL f ks hl ks [] none (by simpa using hl)
  simp only [List.map_nil, List.nil_append] at e
  unfold F_may_be_next runFn c_may_be_next
  simp [-List.map_map, enter, e, freeK]
theorem free_ones_k (ks : List Kn) (hl : ks.length ≤ 100) {q : Nat} (hq : q ≤ 1) : F__law_free_ones [⟨q, false, .lst (ks.map Kn.d)⟩] = .ok ⟨1, false, .lst ((freeK ks).map .int)⟩ [none] := by
  have lc2 := fun k : Kn => lcFG (vs := [2]) (iv := 2) (ft := eCall F__law_keeps [] [.ev (eUse 1), .ev (eUse 2)]) (fe := eUse 2) (ρ := [some (0, .lst (ks.map Kn.d)), some (0, k.d), none]) Kn.d (keepsB k) Kn.d ks [] (Nat.le_of_lt (big1000 (by simp; omega))) (fun o _ => by
      refine ⟨[some (0, .lst (ks.map Kn.d)), some (0, k.d), some (0, o.d)], 0, false, [some (0, .lst (ks.map Kn.d)), some (0, k.d), some (0, o.d)], by simp, ?_, fun _ => by simp [wipeV], fun _ => ⟨0, [some (0, .lst (ks.map Kn.d)), some (0, k.d), some (0, o.d)], by simp, by simp [wipeV]⟩⟩
      have := law_keeps_k k o
      simp [this])
  have lc := lcFG (vs := [1]) (iv := 1) (ft := e2 true (oEqN false) (eLc [2] (.nm 2) (iA (eUse 0)) (eCall F__law_keeps [] [.ev (eUse 1), .ev (eUse 2)]) (eUse 2)) (eLst [])) (fe := e2 true oIdx (eVar 1) (eC (.int 0))) (ρ := [some (0, .lst (ks.map Kn.d)), none, none]) Kn.d (freeB1 ks) (fun k => .int k.num) ks [] (Nat.le_of_lt (big1000 (by simp; omega))) (fun k _ => by
      have := lc2 k
      rw [List.nil_append] at this
      refine ⟨[some (0, .lst (ks.map Kn.d)), some (0, k.d), none], 0, false, [some (0, .lst (ks.map Kn.d)), some (0, k.d), none], by simp, ?_, fun _ => by simp [wipeV], fun _ => ⟨0, [some (0, .lst (ks.map Kn.d)), some (0, k.d), none], ?_, by simp [wipeV]⟩⟩
      · simp [-List.map_map, run_lc, wipeV, this, isEmpty_map, freeB1]
      · have x0 : oIdx ⟨0, false, k.d⟩ ⟨0, false, .int 0⟩ = some (pureV (.int k.num)) := rfl
        have imk : immut k.d = true := rfl
        simp [imk, x0])
  rw [List.nil_append] at lc
  have em : ((ks.filter (freeB1 ks)).map fun k => D.int k.num) = (freeK ks).map .int := by unfold freeK; rw [List.map_map]; rfl
  rw [em] at lc
  unfold F__law_free_ones runFn c__law_free_ones
  simp [-List.map_map, enter, run_lc, wipeV, lc]
end Pd
end
section
namespace Pd
open PySem L2
section
variable {p : Pl}
theorem turn62 (hp : PlOk p) {ring beat : Int} (f : Kn → Int) (ks : List Kn) (hn : ks.length ≤ 20) (d0 : D) : ∀ (n j : Nat) (x7 x8 x9 x10 x11 : Slot), ∃ y7 y8 y9 y10 y11, forL (.nm 7) (sSeq (sAs 8 (e2 true oAdd (eSlc (eVar 6) none (some (eVar 7))) (eSlc (eVar 6) (some (e2 true oAdd (eVar 7) (eC (.int 1)))) none))) (sSeq (sAs 9 (eLc [12] (.nm 12) (iA (e2 true oAdd (eSlc (eVar 5) none (some (eVar 7))) (eSlc (eVar 5) (some (e2 true oAdd (eVar 7) (eC (.int 1)))) none))) (eC (.bl true)) (e2 true oIdx (eVar 12) (eC (.int 0))))) (sSeq (sAs 10 (eCall F_may_be_next [] [.ev (eUse 8)])) (sSeq (sAs 11 (eCall F__law_free_ones [] [.ev (e2 true oAdd (eSlc (eVar 5) none (some (eVar 7))) (eSlc (eVar 5) (some (e2 true oAdd (eVar 7) (eC (.int 1)))) none))])) (sSeq (sIf (eOr (eNot (e1 (oIsi "list") (eVar 10))) (e2 true (oEqD true) (eVar 10) (eVar 11))) (sRt (eC (.bl false))) (sNil)) (sSeq (sIf (eOr (e2 true (oEqN true) (eLcB [12] (.nm 12) 10 (eNot (eCall F__law_whole [] [.ev (eUse 12)])) (eUse 12)) (eLst [])) (e2 true (oEqD true) (eLc [12] (.nm 12) (iA (eUse 8)) (eC (.bl true)) (eFld ft .n_number (eVar 12))) (eVar 9))) (sRt (eC (.bl false))) (sNil)) (sApp true (lVar 10) (eC (.int 0))))))))) ((List.range' j n).map fun i : Nat => D.int (i : Int)) [some (0, d0), some (0, p.s.d), some (0, p.d), some (0, .int ring), some (0, .int beat), some (0, .lst (ks.map Kn.d)), some (0, .lst (ks.map (dueOf f))), x7, x8, x9, x10, x11, none] = .nx [some (0, d0), some (0, p.s.d), some (0, p.d), some (0, .int ring), some (0, .int beat), some (0, .lst (ks.map Kn.d)), some (0, .lst (ks.map (dueOf f))), y7, y8, y9, y10, y11, none]
  | 0, j, x7, x8, x9, x10, x11 => ⟨x7, x8, x9, x10, x11, rfl⟩
  | n + 1, j, x7, x8, x9, x10, x11 => by
    obtain ⟨wo, hwo⟩ : ∃ wo : List Kn, wo = ks.take j ++ ks.drop (j + 1) := ⟨_, rfl⟩
    have lwo : wo.length ≤ 40 := by rw [hwo]; simp; omega
    have ed : (ks.map (dueOf f)).take j ++ (ks.map (dueOf f)).drop (j + 1) = wo.map (dueOf f) := by rw [hwo]; simp [List.map_take, List.map_drop]
    have ek : (ks.map Kn.d).take j ++ (ks.map Kn.d).drop (j + 1) = wo.map Kn.d := by rw [hwo]; simp [List.map_take, List.map_drop]
    have ld : ((ks.map (dueOf f)).take j).length + ((ks.map (dueOf f)).drop (j + 1)).length ≤ BIG := by simp only [List.length_take, List.length_drop, List.length_map]; exact Nat.le_of_lt (big1000 (by omega))
    have lk : ((ks.map Kn.d).take j).length + ((ks.map Kn.d).drop (j + 1)).length ≤ BIG := by simp only [List.length_take, List.length_drop, List.length_map]; exact Nat.le_of_lt (big1000 (by omega))
    have a1 : oAdd ⟨1, false, .lst ((ks.map (dueOf f)).take j)⟩ ⟨1, false, .lst ((ks.map (dueOf f)).drop (j + 1))⟩ = some ⟨1, false, .lst (wo.map (dueOf f))⟩ := by
      rw [← ed]; simp only [oAdd]; rw [if_pos ⟨Nat.le_refl 1, Nat.le_refl 1, ld⟩]
    have a2 : oAdd ⟨1, false, .lst ((ks.map Kn.d).take j)⟩ ⟨1, false, .lst ((ks.map Kn.d).drop (j + 1))⟩ = some ⟨1, false, .lst (wo.map Kn.d)⟩ := by
      rw [← ek]; simp only [oAdd]; rw [if_pos ⟨Nat.le_refl 1, Nat.le_refl 1, lk⟩]
    have bw : wo.length ≤ BIG := Nat.le_of_lt (big1000 (by omega))
    have fl : (freeK wo).length ≤ wo.length := by unfold freeK; rw [List.length_map]; exact List.length_filter_le _ _
    have bf : (freeK wo).length < BIG := big1000 (by omega)
    obtain ⟨y7, y8, y9, y10, y11, e⟩ := turn62 (ring := ring) (beat := beat) hp f ks hn d0 n (j + 1) (some (0, .int (j : Int))) (some (0, .lst (wo.map (dueOf f)))) (some (1, .lst ((wo.map Kn.num).map .int))) (some (1, .lst ((freeK wo).map .int ++ [.int 0]))) (some (1, .lst ((freeK wo).map .int)))
    refine ⟨y7, y8, y9, y10, y11, ?_⟩
    rw [List.range'_succ, List.map_cons]
    refine Eq.trans (forL_nx (ρ1 := [some (0, d0), some (0, p.s.d), some (0, p.d), some (0, .int ring), some (0, .int beat), some (0, .lst (ks.map Kn.d)), some (0, .lst (ks.map (dueOf f))), some (0, .int (j : Int)), x8, x9, x10, x11, none]) (bind_st (by simp) rfl) (ρ2 := [some (0, d0), some (0, p.s.d), some (0, p.d), some (0, .int ring), some (0, .int beat), some (0, .lst (ks.map Kn.d)), some (0, .lst (ks.map (dueOf f))), some (0, .int (j : Int)), some (0, .lst (wo.map (dueOf f))), some (1, .lst ((wo.map Kn.num).map .int)), some (1, .lst ((freeK wo).map .int ++ [.int 0])), some (1, .lst ((freeK wo).map .int)), none]) ?_) e
    have e8 : (sAs 8 (e2 true oAdd (eSlc (eVar 6) none (some (eVar 7))) (eSlc (eVar 6) (some (e2 true oAdd (eVar 7) (eC (.int 1)))) none))) [some (0, d0), some (0, p.s.d), some (0, p.d), some (0, .int ring), some (0, .int beat), some (0, .lst (ks.map Kn.d)), some (0, .lst (ks.map (dueOf f))), some (0, .int (j : Int)), x8, x9, x10, x11, none] = .nx [some (0, d0), some (0, p.s.d), some (0, p.d), some (0, .int ring), some (0, .int beat), some (0, .lst (ks.map Kn.d)), some (0, .lst (ks.map (dueOf f))), some (0, .int (j : Int)), some (1, .lst (wo.map (dueOf f))), x9, x10, x11, none] := by
      simp [-List.map_map, -List.map_append, -List.map_take, -List.map_drop, cutD_from1, a1]
    have n9 := lcNum (vs := [12]) (iv := 12) (fe := e2 true oIdx (eVar 12) (eC (.int 0))) (ρ := [some (0, d0), some (0, p.s.d), some (0, p.d), some (0, .int ring), some (0, .int beat), some (0, .lst (ks.map Kn.d)), some (0, .lst (ks.map (dueOf f))), some (0, .int (j : Int)), some (1, .lst (wo.map (dueOf f))), x9, x10, x11, none]) Kn.d Kn.num wo [] (by simpa using bw) (fun k _ => by
      have x0 : oIdx ⟨0, false, k.d⟩ ⟨0, false, .int 0⟩ = some (pureV (.int k.num)) := rfl
      have imk : immut k.d = true := rfl
      refine ⟨[some (0, d0), some (0, p.s.d), some (0, p.d), some (0, .int ring), some (0, .int beat), some (0, .lst (ks.map Kn.d)), some (0, .lst (ks.map (dueOf f))), some (0, .int (j : Int)), some (1, .lst (wo.map (dueOf f))), x9, x10, x11, some (0, k.d)], [some (0, d0), some (0, p.s.d), some (0, p.d), some (0, .int ring), some (0, .int beat), some (0, .lst (ks.map Kn.d)), some (0, .lst (ks.map (dueOf f))), some (0, .int (j : Int)), some (1, .lst (wo.map (dueOf f))), x9, x10, x11, some (0, k.d)], bind_st (by simp) rfl, ?_, by simp [wipeV]⟩
      simp [imk, x0])
    simp only [List.map_nil, List.nil_append] at n9
    have e9 : (sAs 9 (eLc [12] (.nm 12) (iA (e2 true oAdd (eSlc (eVar 5) none (some (eVar 7))) (eSlc (eVar 5) (some (e2 true oAdd (eVar 7) (eC (.int 1)))) none))) (eC (.bl true)) (e2 true oIdx (eVar 12) (eC (.int 0))))) [some (0, d0), some (0, p.s.d), some (0, p.d), some (0, .int ring), some (0, .int beat), some (0, .lst (ks.map Kn.d)), some (0, .lst (ks.map (dueOf f))), some (0, .int (j : Int)), some (1, .lst (wo.map (dueOf f))), x9, x10, x11, none] = .nx [some (0, d0), some (0, p.s.d), some (0, p.d), some (0, .int ring), some (0, .int beat), some (0, .lst (ks.map Kn.d)), some (0, .lst (ks.map (dueOf f))), some (0, .int (j : Int)), some (1, .lst (wo.map (dueOf f))), some (1, .lst ((wo.map Kn.num).map .int)), x10, x11, none] := by
      simp [-List.map_map, -List.map_append, -List.map_take, -List.map_drop, run_lc, wipeV, cutD_from1, a2, n9]
    have b1 : F_may_be_next [pureV (.lst (wo.map (dueOf f)))] = _ := may_be_next_k f wo (by omega) (Nat.zero_le 1)
    have b2 := free_ones_k wo (by omega) (Nat.le_refl 1)
    have e10 : (sAs 10 (eCall F_may_be_next [] [.ev (eUse 8)])) [some (0, d0), some (0, p.s.d), some (0, p.d), some (0, .int ring), some (0, .int beat), some (0, .lst (ks.map Kn.d)), some (0, .lst (ks.map (dueOf f))), some (0, .int (j : Int)), some (1, .lst (wo.map (dueOf f))), some (1, .lst ((wo.map Kn.num).map .int)), x10, x11, none] = .nx [some (0, d0), some (0, p.s.d), some (0, p.d), some (0, .int ring), some (0, .int beat), some (0, .lst (ks.map Kn.d)), some (0, .lst (ks.map (dueOf f))), some (0, .int (j : Int)), some (0, .lst (wo.map (dueOf f))), some (1, .lst ((wo.map Kn.num).map .int)), some (1, .lst ((freeK wo).map .int)), x11, none] := by
      simp [-List.map_map, b1]
    have e11 : (sAs 11 (eCall F__law_free_ones [] [.ev (e2 true oAdd (eSlc (eVar 5) none (some (eVar 7))) (eSlc (eVar 5) (some (e2 true oAdd (eVar 7) (eC (.int 1)))) none))])) [some (0, d0), some (0, p.s.d), some (0, p.d), some (0, .int ring), some (0, .int beat), some (0, .lst (ks.map Kn.d)), some (0, .lst (ks.map (dueOf f))), some (0, .int (j : Int)), some (0, .lst (wo.map (dueOf f))), some (1, .lst ((wo.map Kn.num).map .int)), some (1, .lst ((freeK wo).map .int)), x11, none] = .nx [some (0, d0), some (0, p.s.d), some (0, p.d), some (0, .int ring), some (0, .int beat), some (0, .lst (ks.map Kn.d)), some (0, .lst (ks.map (dueOf f))), some (0, .int (j : Int)), some (0, .lst (wo.map (dueOf f))), some (1, .lst ((wo.map Kn.num).map .int)), some (1, .lst ((freeK wo).map .int)), some (1, .lst ((freeK wo).map .int)), none] := by
      simp [-List.map_map, -List.map_append, -List.map_take, -List.map_drop, cutD_from1, a2, b2]
    have ol : ∀ b ds, oIsi "list" ⟨1, b, .lst ds⟩ = some (pureV (.bl true)) := fun _ _ => rfl
    have o1 := oEq_ints (q := 1) (q' := 1) (b := true) (b' := true) (neg := true) (freeK wo)
    have e12 : (sIf (eOr (eNot (e1 (oIsi "list") (eVar 10))) (e2 true (oEqD true) (eVar 10) (eVar 11))) (sRt (eC (.bl false))) (sNil)) [some (0, d0), some (0, p.s.d), some (0, p.d), some (0, .int ring), some (0, .int beat), some (0, .lst (ks.map Kn.d)), some (0, .lst (ks.map (dueOf f))), some (0, .int (j : Int)), some (0, .lst (wo.map (dueOf f))), some (1, .lst ((wo.map Kn.num).map .int)), some (1, .lst ((freeK wo).map .int)), some (1, .lst ((freeK wo).map .int)), none] = .nx [some (0, d0), some (0, p.s.d), some (0, p.d), some (0, .int ring), some (0, .int beat), some (0, .lst (ks.map Kn.d)), some (0, .lst (ks.map (dueOf f))), some (0, .int (j : Int)), some (0, .lst (wo.map (dueOf f))), some (1, .lst ((wo.map Kn.num).map .int)), some (1, .lst ((freeK wo).map .int)), some (1, .lst ((freeK wo).map .int)), none] := by
      simp [ol, o1]
    have w1 : compL [12] (.nm 12) (eNot (eCall F__law_whole [] [.ev (eUse 12)])) (eUse 12) ((freeK wo).map .int) [] [some (0, d0), some (0, p.s.d), some (0, p.d), some (0, .int ring), some (0, .int beat), some (0, .lst (ks.map Kn.d)), some (0, .lst (ks.map (dueOf f))), some (0, .int (j : Int)), some (0, .lst (wo.map (dueOf f))), some (1, .lst ((wo.map Kn.num).map .int)), none, some (1, .lst ((freeK wo).map .int)), none] = .ok ⟨1, false, .lst []⟩ [some (0, d0), some (0, p.s.d), some (0, p.d), some (0, .int ring), some (0, .int beat), some (0, .lst (ks.map Kn.d)), some (0, .lst (ks.map (dueOf f))), some (0, .int (j : Int)), some (0, .lst (wo.map (dueOf f))), some (1, .lst ((wo.map Kn.num).map .int)), none, some (1, .lst ((freeK wo).map .int)), none] := by
      have := lcFG (vs := [12]) (iv := 12) (ft := eNot (eCall F__law_whole [] [.ev (eUse 12)])) (fe := eUse 12) (ρ := [some (0, d0), some (0, p.s.d), some (0, p.d), some (0, .int ring), some (0, .int beat), some (0, .lst (ks.map Kn.d)), some (0, .lst (ks.map (dueOf f))), some (0, .int (j : Int)), some (0, .lst (wo.map (dueOf f))), some (1, .lst ((wo.map Kn.num).map .int)), none, some (1, .lst ((freeK wo).map .int)), none]) D.int (fun _ => false) D.int (freeK wo) [] (by simp; exact Nat.le_of_lt bf) (fun k _ => by
        have ew := whole_k k
        refine ⟨[some (0, d0), some (0, p.s.d), some (0, p.d), some (0, .int ring), some (0, .int beat), some (0, .lst (ks.map Kn.d)), some (0, .lst (ks.map (dueOf f))), some (0, .int (j : Int)), some (0, .lst (wo.map (dueOf f))), some (1, .lst ((wo.map Kn.num).map .int)), none, some (1, .lst ((freeK wo).map .int)), some (0, .int k)], 0, false, [some (0, d0), some (0, p.s.d), some (0, p.d), some (0, .int ring), some (0, .int beat), some (0, .lst (ks.map Kn.d)), some (0, .lst (ks.map (dueOf f))), some (0, .int (j : Int)), some (0, .lst (wo.map (dueOf f))), some (1, .lst ((wo.map Kn.num).map .int)), none, some (1, .lst ((freeK wo).map .int)), some (0, .int k)], bind_st (by simp) rfl, by simp [ew], fun _ => by simp [wipeV], fun z => by cases z⟩)
      rw [this]
      simp
    have n12 := lcNum (vs := [12]) (iv := 12) (fe := eFld ft .n_number (eVar 12)) (ρ := [some (0, d0), some (0, p.s.d), some (0, p.d), some (0, .int ring), some (0, .int beat), some (0, .lst (ks.map Kn.d)), some (0, .lst (ks.map (dueOf f))), some (0, .int (j : Int)), some (0, .lst (wo.map (dueOf f))), some (1, .lst ((wo.map Kn.num).map .int)), some (1, .lst ((freeK wo).map .int)), some (1, .lst ((freeK wo).map .int)), none]) (dueOf f) Kn.num wo [] (by simpa using bw) (fun k _ => by
      have fn0 : oFld ft .n_number ⟨0, false, dueOf f k⟩ = some (pureV (.int k.num)) := fd_number
      refine ⟨[some (0, d0), some (0, p.s.d), some (0, p.d), some (0, .int ring), some (0, .int beat), some (0, .lst (ks.map Kn.d)), some (0, .lst (ks.map (dueOf f))), some (0, .int (j : Int)), some (0, .lst (wo.map (dueOf f))), some (1, .lst ((wo.map Kn.num).map .int)), some (1, .lst ((freeK wo).map .int)), some (1, .lst ((freeK wo).map .int)), some (0, dueOf f k)], [some (0, d0), some (0, p.s.d), some (0, p.d), some (0, .int ring), some (0, .int beat), some (0, .lst (ks.map Kn.d)), some (0, .lst (ks.map (dueOf f))), some (0, .int (j : Int)), some (0, .lst (wo.map (dueOf f))), some (1, .lst ((wo.map Kn.num).map .int)), some (1, .lst ((freeK wo).map .int)), some (1, .lst ((freeK wo).map .int)), some (0, dueOf f k)], bind_st (by simp) rfl, ?_, by simp [wipeV]⟩
      simp [fn0])
    simp only [List.map_nil, List.nil_append] at n12
    have o2 := oEq_ints (q := 1) (q' := 1) (b := false) (b' := true) (neg := true) (wo.map Kn.num)
    have e13 : (sIf (eOr (e2 true (oEqN true) (eLcB [12] (.nm 12) 10 (eNot (eCall F__law_whole [] [.ev (eUse 12)])) (eUse 12)) (eLst [])) (e2 true (oEqD true) (eLc [12] (.nm 12) (iA (eUse 8)) (eC (.bl true)) (eFld ft .n_number (eVar 12))) (eVar 9))) (sRt (eC (.bl false))) (sNil)) [some (0, d0), some (0, p.s.d), some (0, p.d), some (0, .int ring), some (0, .int beat), some (0, .lst (ks.map Kn.d)), some (0, .lst (ks.map (dueOf f))), some (0, .int (j : Int)), some (0, .lst (wo.map (dueOf f))), some (1, .lst ((wo.map Kn.num).map .int)), some (1, .lst ((freeK wo).map .int)), some (1, .lst ((freeK wo).map .int)), none] = .nx [some (0, d0), some (0, p.s.d), some (0, p.d), some (0, .int ring), some (0, .int beat), some (0, .lst (ks.map Kn.d)), some (0, .lst (ks.map (dueOf f))), some (0, .int (j : Int)), some (0, .lst (wo.map (dueOf f))), some (1, .lst ((wo.map Kn.num).map .int)), some (1, .lst ((freeK wo).map .int)), some (1, .lst ((freeK wo).map .int)), none] := by
      simp [-List.map_map, run_lcB, run_lc, wipeV, w1, n12, o2]
    rw [seq_nx e8, seq_nx e9, seq_nx e10, seq_nx e11, seq_nx e12, seq_nx e13]
    simp [-List.map_map, bf]
theorem law_true : ∀ ns : List Int, ns.length ≤ 63 → ∃ os, runFn c_law [pureV (.frl (ns.map .int))] = .ok (pureV (.bl true)) os := fun ns _ => by
  obtain ⟨p, ring, beat, ks, hp, hk, hr, hb, hs⟩ := law_start_k ns (most := 6) (by decide)
  have hl := hk.len
  refine ⟨[none], ?_⟩
  have hb : RB ((ks.length : Int) + 1) := by unfold RB; omega
  obtain ⟨y7, y8, y9, y10, y11, e⟩ := turn62 (ring := ring) (beat := beat) hp.ok (fun k => cellAt ns 12 + k.num) ks (by omega) (.frl (ns.map .int)) (ks.length + 1) 0 none none none none none
  have b1 := may_be_next_k (fun k => cellAt ns 12 + k.num) ks (by omega) (Nat.le_refl 1)
  have b2 : F__law_free_ones [pureV (.lst (ks.map Kn.d))] = _ := free_ones_k ks (by omega) (Nat.zero_le 1)
  have ol : ∀ b ds, oIsi "list" ⟨1, b, .lst ds⟩ = some (pureV (.bl true)) := fun _ _ => rfl
  have o1 := oEq_ints (q := 0) (q' := 1) (b := false) (b' := false) (neg := false) (freeK ks)
  have olst : oList ⟨0, false, .lst (ks.map (dueOf fun k => cellAt ns 12 + k.num))⟩ = some ⟨1, false, .lst (ks.map (dueOf fun k => cellAt ns 12 + k.num))⟩ := by simp [oList]
  unfold runFn c_law
  simp [-List.map_map, enter, hs, eq_true hb, rng0, e, b1, b2, ol, o1, olst]
end
end Pd
end
section
namespace Pd
open PySem PySem.Spec PyProof.Rows L2
def top (i : Nat) : Stmt := PySem.Challenge.pw_armswing_k62_may_be_next.main.body.getD i (.Pass ⟨0, 0, 0, 0⟩)
def d_AskUU_initUU : He.DefD := ⟨("Ask", some "__init__"), "__init__", "Ask.__init__", defArgs (inClass (top 8) 0), defBody (inClass (top 8) 0), defScope (inClass (top 8) 0), [], []⟩
def d_check : He.DefD := ⟨("check", none), "check", "check", defArgs (top 9), defBody (top 9), defScope (top 9), [], []⟩
def d_with_rest : He.DefD := ⟨("with_rest", none), "with_rest", "with_rest", defArgs (top 10), defBody (top 10), defScope (top 10), [], []⟩
def d_reading : He.DefD := ⟨("reading", none), "reading", "reading", defArgs (top 11), defBody (top 11), defScope (top 11), [.int 0, .non, .non], []⟩
def d_writing : He.DefD := ⟨("writing", none), "writing", "writing", defArgs (top 12), defBody (top 12), defScope (top 12), [.int 0, .non, .non, .bl false], []⟩
def d_clash : He.DefD := ⟨("clash", none), "clash", "clash", defArgs (top 13), defBody (top 13), defScope (top 13), [], []⟩
def d_stretch : He.DefD := ⟨("stretch", none), "stretch", "stretch", defArgs (top 15), defBody (top 15), defScope (top 15), [], []⟩
def d_numbered_stretch : He.DefD := ⟨("numbered_stretch", none), "numbered_stretch", "numbered_stretch", defArgs (top 16), defBody (top 16), defScope (top 16), [], []⟩
def d_DueUU_initUU : He.DefD := ⟨("Due", some "__init__"), "__init__", "Due.__init__", defArgs (inClass (top 17) 0), defBody (inClass (top 17) 0), defScope (inClass (top 17) 0), [], []⟩
def d_keeps_behind : He.DefD := ⟨("keeps_behind", none), "keeps_behind", "keeps_behind", defArgs (top 19), defBody (top 19), defScope (top 19), [], []⟩
def d_may_be_next : He.DefD := ⟨("may_be_next", none), "may_be_next", "may_be_next", defArgs (top 20), defBody (top 20), defScope (top 20), [], []⟩
def d_ring_counts : He.DefD := ⟨("ring_counts", none), "ring_counts", "ring_counts", defArgs (top 23), defBody (top 23), defScope (top 23), [], []⟩
def d_check_lap : He.DefD := ⟨("check_lap", none), "check_lap", "check_lap", defArgs (top 24), defBody (top 24), defScope (top 24), [], []⟩
def d_check_swing : He.DefD := ⟨("check_swing", none), "check_swing", "check_swing", defArgs (top 25), defBody (top 25), defScope (top 25), [], []⟩
def d_PlateUU_initUU : He.DefD := ⟨("Plate", some "__init__"), "__init__", "Plate.__init__", defArgs (inClass (top 26) 0), defBody (inClass (top 26) 0), defScope (inClass (top 26) 0), [], []⟩
def d_Plate_total : He.DefD := ⟨("Plate", some "total"), "total", "Plate.total", defArgs (inClass (top 26) 2), defBody (inClass (top 26) 2), defScope (inClass (top 26) 2), [], []⟩
def d_Plate_plain_cell : He.DefD := ⟨("Plate", some "plain_cell"), "plain_cell", "Plate.plain_cell", defArgs (inClass (top 26) 8), defBody (inClass (top 26) 8), defScope (inClass (top 26) 8), [], []⟩
def d_Plate_plain_number : He.DefD := ⟨("Plate", some "plain_number"), "plain_number", "Plate.plain_number", defArgs (inClass (top 26) 9), defBody (inClass (top 26) 9), defScope (inClass (top 26) 9), [], []⟩
def d_Plate_cell_at : He.DefD := ⟨("Plate", some "cell_at"), "cell_at", "Plate.cell_at", defArgs (inClass (top 26) 10), defBody (inClass (top 26) 10), defScope (inClass (top 26) 10), [], []⟩
def d_Plate_number_of : He.DefD := ⟨("Plate", some "number_of"), "number_of", "Plate.number_of", defArgs (inClass (top 26) 11), defBody (inClass (top 26) 11), defScope (inClass (top 26) 11), [], []⟩
def d_MendedUU_initUU : He.DefD := ⟨("Mended", some "__init__"), "__init__", "Mended.__init__", defArgs (inClass (top 28) 0), defBody (inClass (top 28) 0), defScope (inClass (top 28) 0), [], []⟩
def d_Mended_bad_numbers : He.DefD := ⟨("Mended", some "bad_numbers"), "bad_numbers", "Mended.bad_numbers", defArgs (inClass (top 28) 1), defBody (inClass (top 28) 1), defScope (inClass (top 28) 1), [], []⟩
def d_Mended_free_cell : He.DefD := ⟨("Mended", some "free_cell"), "free_cell", "Mended.free_cell", defArgs (inClass (top 28) 2), defBody (inClass (top 28) 2), defScope (inClass (top 28) 2), [], []⟩
def d_Mended_cell_at : He.DefD := ⟨("Mended", some "cell_at"), "cell_at", "Mended.cell_at", defArgs (inClass (top 28) 3), defBody (inClass (top 28) 3), defScope (inClass (top 28) 3), [], []⟩
def d_Mended_number_of : He.DefD := ⟨("Mended", some "number_of"), "number_of", "Mended.number_of", defArgs (inClass (top 28) 4), defBody (inClass (top 28) 4), defScope (inClass (top 28) 4), [], []⟩
def d__law_cell_at : He.DefD := ⟨("_law_cell_at", none), "_law_cell_at", "_law_cell_at", defArgs (top 30), defBody (top 30), defScope (top 30), [], []⟩
def d__law_stream : He.DefD := ⟨("_law_stream", none), "_law_stream", "_law_stream", defArgs (top 31), defBody (top 31), defScope (top 31), [], []⟩
def d__law_swing : He.DefD := ⟨("_law_swing", none), "_law_swing", "_law_swing", defArgs (top 32), defBody (top 32), defScope (top 32), [], []⟩
def d__law_spec : He.DefD := ⟨("_law_spec", none), "_law_spec", "_law_spec", defArgs (top 33), defBody (top 33), defScope (top 33), [], []⟩
def d__law_plate : He.DefD := ⟨("_law_plate", none), "_law_plate", "_law_plate", defArgs (top 34), defBody (top 34), defScope (top 34), [], []⟩
def d__law_walk : He.DefD := ⟨("_law_walk", none), "_law_walk", "_law_walk", defArgs (top 35), defBody (top 35), defScope (top 35), [], []⟩
def d__law_behind_way : He.DefD := ⟨("_law_behind_way", none), "_law_behind_way", "_law_behind_way", defArgs (top 36), defBody (top 36), defScope (top 36), [], []⟩
def d__law_beside : He.DefD := ⟨("_law_beside", none), "_law_beside", "_law_beside", defArgs (top 37), defBody (top 37), defScope (top 37), [], []⟩
def d__law_tight : He.DefD := ⟨("_law_tight", none), "_law_tight", "_law_tight", defArgs (top 38), defBody (top 38), defScope (top 38), [], []⟩
def d__law_known : He.DefD := ⟨("_law_known", none), "_law_known", "_law_known", defArgs (top 39), defBody (top 39), defScope (top 39), [], []⟩
def d__law_ask : He.DefD := ⟨("_law_ask", none), "_law_ask", "_law_ask", defArgs (top 40), defBody (top 40), defScope (top 40), [], []⟩
def d__law_keeps : He.DefD := ⟨("_law_keeps", none), "_law_keeps", "_law_keeps", defArgs (top 41), defBody (top 41), defScope (top 41), [], []⟩
def d__law_free_ones : He.DefD := ⟨("_law_free_ones", none), "_law_free_ones", "_law_free_ones", defArgs (top 42), defBody (top 42), defScope (top 42), [], []⟩
def d__law_whole : He.DefD := ⟨("_law_whole", none), "_law_whole", "_law_whole", defArgs (top 43), defBody (top 43), defScope (top 43), [], []⟩
def d__law_start : He.DefD := ⟨("_law_start", none), "_law_start", "_law_start", defArgs (top 44), defBody (top 44), defScope (top 44), [], []⟩
def d_law : He.DefD := ⟨("law", none), "law", "law", defArgs (top 45), defBody (top 45), defScope (top 45), [], []⟩
def fn : List He.DefD := [d_AskUU_initUU, d_check, d_with_rest, d_reading, d_writing, d_clash, d_stretch, d_numbered_stretch, d_DueUU_initUU, d_keeps_behind, d_may_be_next, d_ring_counts, d_check_lap, d_check_swing, d_PlateUU_initUU, d_Plate_total, d_Plate_plain_cell, d_Plate_plain_number, d_Plate_cell_at, d_Plate_number_of, d_MendedUU_initUU, d_Mended_bad_numbers, d_Mended_free_cell, d_Mended_cell_at, d_Mended_number_of, d__law_cell_at, d__law_stream, d__law_swing, d__law_spec, d__law_plate, d__law_walk, d__law_behind_way, d__law_beside, d__law_tight, d__law_known, d__law_ask, d__law_keeps, d__law_free_ones, d__law_whole, d__law_start, d_law]
def fa : List He.Fa := [.free "range", .free "sorted", .glo "_law_stream", .free "len", .glo "_law_swing", .int "MOST" 1000000000, .glo "ring_counts", .glo "check_lap", .glo "check_swing", .free "list", .free "sum", .glo "Plate", .free "min", .mkr "Plate", .mkr "Mended", .glo "Mended", .free "abs", .glo "_law_walk", .glo "_law_behind_way", .glo "_law_cell_at", .free "int", .free "tuple", .glo "_law_beside", .glo "_law_tight", .glo "stretch", .glo "numbered_stretch", .glo "check", .mkr "Ask", .glo "Ask", .glo "with_rest", .glo "writing", .glo "reading", .glo "_law_spec", .glo "_law_plate", .glo "_law_known", .glo "_law_ask", .mkr "Due", .glo "Due", .glo "clash", .glo "keeps_behind", .glo "_law_keeps", .free "isinstance", .free "bool", .glo "_law_start", .glo "may_be_next", .glo "_law_free_ones", .glo "_law_whole", .cls "Ask", .noat "Ask" "kind", .noat "Ask" "first", .noat "Ask" "many", .noat "Ask" "marks", .noat "Ask" "at", .noat "Ask" "asker", .noat "Ask" "latest", .noat "Ask" "behind", .noat "Ask" "early", .cls "Due", .noat "Due" "number", .noat "Due" "ask", .noat "Due" "cells", .cls "Plate", .noat "Plate" "counts", .noat "Plate" "lap", .noat "Plate" "skew", .noat "Plate" "swings", .noat "Plate" "spare", .cls "Mended", .noat "Mended" "spare", .noat "Mended" "bad", .noat "Mended" "moved", .noat "Mended" "lies", .noat "Mended" "counts", .noat "Mended" "lap", .noat "Mended" "skew", .noat "Mended" "swings", .meth "Mended" "plain_number", .meth "Plate" "plain_number", .meth "Mended" "bad_numbers", .meth "Mended" "free_cell", .meth "Mended" "plain_cell", .meth "Plate" "plain_cell", .meth "Mended" "number_of", .meth "Plate" "number_of", .meth "Mended" "total", .meth "Plate" "total", .meth "Mended" "cell_at", .meth "Plate" "cell_at", .glo "law"]
def ck : List Ck := [.uok "Plate" "__init__", .al "Mended" "plain_number" "Plate", .al "Mended" "plain_cell" "Plate", .al "Mended" "total" "Plate"]
variable {P : Program} {w : World} {K : PySem.W.Frag} {mg : Str → Option Value} {base : Heap}
theorem un1 {n : Nat} (h : n + 64 < cLine) : n + 1 < cLine := by omega
theorem vis_ok {X : Cx} {x : Str} (h : (decide (X.env.scope.names.lookup x = some .local) || (decide (X.env.scope.names.lookup x = some .cell) || decide (X.env.scope.names.lookup x = some .free))) = true) : Vis X.env.scope x := by
  simp only [Bool.or_eq_true, decide_eq_true_eq] at h
  exact h
theorem sa_w {X : Cx} {W : WX} {es : List Expr} {as : List Ar} (h : SA X W true es as) : SA X W false es as := h.weak
theorem pg_nm {X : Cx} {x : Str} {p : Pos} (i : Nat) (hN : X.N.Nodup) (hi : X.N[i]? = some x := by rfl) (hx : Loc X.env.scope x := by first | exact Or.inl rfl | exact Or.inr rfl) (hf : X.fn x = true ∨ X.env.scope.names.lookup x = some .local := by first | exact .inl rfl | exact .inr rfl) : PG X (.Name x p) (gName i) := pg_name hN hi hx hf
theorem FO (F : Fx fa ck fn K mg) : FldOk K ft := fld_ok (List.forall_mem_cons.mpr ⟨⟨F.cls 47, List.forall_mem_cons.mpr ⟨F.noat 48, List.forall_mem_cons.mpr ⟨F.noat 49, List.forall_mem_cons.mpr ⟨F.noat 50, List.forall_mem_cons.mpr ⟨F.noat 51, List.forall_mem_cons.mpr ⟨F.noat 52, List.forall_mem_cons.mpr ⟨F.noat 53, List.forall_mem_cons.mpr ⟨F.noat 54, List.forall_mem_cons.mpr ⟨F.noat 55, List.forall_mem_cons.mpr ⟨F.noat 56, List.forall_mem_nil _⟩⟩⟩⟩⟩⟩⟩⟩⟩⟩, List.forall_mem_cons.mpr ⟨⟨F.cls 57, List.forall_mem_cons.mpr ⟨F.noat 58, List.forall_mem_cons.mpr ⟨F.noat 59, List.forall_mem_cons.mpr ⟨F.noat 60, List.forall_mem_nil _⟩⟩⟩⟩, List.forall_mem_cons.mpr ⟨⟨F.cls 61, List.forall_mem_cons.mpr ⟨F.noat 62, List.forall_mem_cons.mpr ⟨F.noat 63, List.forall_mem_cons.mpr ⟨F.noat 64, List.forall_mem_cons.mpr ⟨F.noat 65, List.forall_mem_cons.mpr ⟨F.noat 66, List.forall_mem_nil _⟩⟩⟩⟩⟩⟩, List.forall_mem_cons.mpr ⟨⟨F.cls 67, List.forall_mem_cons.mpr ⟨F.noat 68, List.forall_mem_cons.mpr ⟨F.noat 69, List.forall_mem_cons.mpr ⟨F.noat 70, List.forall_mem_cons.mpr ⟨F.noat 71, List.forall_mem_cons.mpr ⟨F.noat 72, List.forall_mem_cons.mpr ⟨F.noat 73, List.forall_mem_cons.mpr ⟨F.noat 74, List.forall_mem_cons.mpr ⟨F.noat 75, List.forall_mem_nil _⟩⟩⟩⟩⟩⟩⟩⟩⟩, List.forall_mem_nil _⟩⟩⟩⟩)
theorem nd__law_stream : (["cell", "many", "found", "number", "k"] : List Str).Nodup := by decide +kernel
theorem sc__law_stream : FnScope ["cell", "many", "found", "number", "k"] ["cell", "many"] d__law_stream.scope := ⟨rfl, rfl, rfl, nd__law_stream, rfl, by decide +kernel, by decide +kernel⟩
theorem sb__law_stream (F : Fx fa ck fn K mg) (cdv : Value) (A : Around) (outer : List Env) (s : Shared) (H : Hp) (E : XK) (hr : Room 0 (A.deeper (envOfC d__law_stream.qual d__law_stream.scope s.heap.objs.size (He.fAd K d__law_stream.at_) cdv))) :
    SB (cxOf (L2.CX P w) P w K mg base ["cell", "many", "found", "number", "k"] d__law_stream.qual d__law_stream.scope (He.fAd K d__law_stream.at_) cdv A outer s H E) (fun cls d _ H => E cls d H) (ioIx c__law_stream.io) d__law_stream.body c__law_stream.body := by
  have tk : Takes (cxOf (L2.CX P w) P w K mg base ["cell", "many", "found", "number", "k"] d__law_stream.qual d__law_stream.scope (He.fAd K d__law_stream.at_) cdv A outer s H E) (fun cls d _ H => E cls d H) := takes_of rfl rfl rfl rfl
  exact sb_cons (ss_set (s := true) 2 (se_lst (s := true) (sa_nil)) (hN := nd__law_stream)) (sb_cons (ss_set (s := true) 3 (se_op (s := true) (sa := true) (sb := true) op_addA ok_add (se_op (s := true) (sa := true) (sb := true) op_mod ok_mod (se_var (s := true) 0) (se_int (s := true))) (se_int (s := true))) (hN := nd__law_stream)) (sb_cons (ss_for (s := true) (t := .nm 4) (passes_of rfl) rfl (si_range1 (s := true) (se_op (s := true) (sa := true) (sb := true) op_addA ok_add (se_var (s := true) 1) (se_int (s := true))) (F.free 0)) (pgT_nm 4 nd__law_stream) (sb_cons (ss_set (s := true) 3 (se_op (s := true) (sa := true) (sb := true) op_mod ok_mod (se_op (s := true) (sa := true) (sb := true) op_addA ok_add (se_op (s := true) (sa := true) (sb := true) op_addA ok_add (se_op (s := true) (sa := true) (sb := true) op_mulA ok_mul (se_var (s := true) 3) (se_var (s := true) 3)) (se_op (s := true) (sa := true) (sb := true) op_mulA ok_mul (se_int (s := true)) (se_var (s := true) 3))) (se_var (s := true) 4)) (se_int (s := true))) (hN := nd__law_stream)) (sb_one (ss_append (sy := true) (sl_var 2) (se_use (s := true) 3))))) (sb_one (ss_ret (s := true) (se_slc (s := true) (sa := true) (se_var (s := true) 2) (so_some (se_int (s := true))) so_none)))))
theorem ok__law_stream (F : Fx fa ck fn K mg) : DefOk P w K mg base 1 (He.fAd K ("_law_stream", none)) 2 [] F__law_stream := by
  obtain ⟨fd, Fd⟩ := F.def_ 26 (d := d__law_stream) rfl
  exact def_law (fc := c__law_stream) Fd sc__law_stream rfl rfl rfl rfl (bd0 rfl rfl Fd fun _ _ _ _ _ _ us hl => match us, hl with | [_, _], _ => rfl) fun cdv A outer s H E hr => sb__law_stream F cdv A outer s H E hr
theorem nd__law_swing : (["xs", "rings", "step", "far", "k", "least"] : List Str).Nodup := by decide +kernel
theorem sc__law_swing : FnScope ["xs", "rings", "step", "far", "k", "least"] ["xs", "rings"] d__law_swing.scope := ⟨rfl, rfl, rfl, nd__law_swing, rfl, by decide +kernel, by decide +kernel⟩
theorem sb__law_swing (F : Fx fa ck fn K mg) (cdv : Value) (A : Around) (outer : List Env) (s : Shared) (H : Hp) (E : XK) (hr : Room 0 (A.deeper (envOfC d__law_swing.qual d__law_swing.scope s.heap.objs.size (He.fAd K d__law_swing.at_) cdv))) :
    SB (cxOf (L2.CX P w) P w K mg base ["xs", "rings", "step", "far", "k", "least"] d__law_swing.qual d__law_swing.scope (He.fAd K d__law_swing.at_) cdv A outer s H E) (fun cls d _ H => E cls d H) (ioIx c__law_swing.io) d__law_swing.body c__law_swing.body := by
  have tk : Takes (cxOf (L2.CX P w) P w K mg base ["xs", "rings", "step", "far", "k", "least"] d__law_swing.qual d__law_swing.scope (He.fAd K d__law_swing.at_) cdv A outer s H E) (fun cls d _ H => E cls d H) := takes_of rfl rfl rfl rfl
  exact sb_cons (ss_if (s := true) (st_cmp (s := true) (sa := true) (sb := true) (op_eqD hr.units) ok_eqD (se_op (s := true) (sa := true) (sb := true) op_mod ok_mod (se_idx (s := true) (sa := true) (sb := true) (se_var (s := true) 0) (se_int (s := true))) (se_int (s := true))) (se_int (s := true))) (sb_cons (ss_set (s := true) 2 (se_op (s := true) (sa := true) (sb := true) op_addA ok_add (se_int (s := true)) (se_op (s := true) (sa := true) (sb := true) op_mod ok_mod (se_idx (s := true) (sa := true) (sb := true) (se_var (s := true) 0) (se_int (s := true))) (se_int (s := true)))) (hN := nd__law_swing)) (sb_cons (ss_if (s := true) (st_cmp (s := true) (sa := true) (sb := true) (op_eqD hr.units) ok_eqD (se_op (s := true) (sa := true) (sb := true) op_mod ok_mod (se_op (s := true) (sa := true) (sb := true) op_fdiv ok_div (se_idx (s := true) (sa := true) (sb := true) (se_var (s := true) 0) (se_int (s := true))) (se_int (s := true))) (se_int (s := true))) (se_int (s := true))) (sb_one (ss_set (s := true) 2 (se_op (s := true) (sa := true) (sb := true) op_addA ok_add (se_int (s := true)) (se_op (s := true) (sa := true) (sb := true) op_mod ok_mod (se_idx (s := true) (sa := true) (sb := true) (se_var (s := true) 0) (se_int (s := true))) (se_op (s := true) (sa := true) (sb := true) op_pow ok_pow (se_int (s := true)) (se_int (s := true))))) (hN := nd__law_swing))) (sb_nil)) (sb_cons (ss_set (s := true) 3 (se_lst (s := true) (sa_ev (s := true) (sa := true) (sb := true) (se_int (s := true)) (sa_nil))) (hN := nd__law_swing)) (sb_cons (ss_for (s := true) (t := .nm 4) (passes_of rfl) rfl (si_range2 (s := true) (sa := true) (sb := true) (se_int (s := true)) (se_var (s := true) 1) (F.free 0)) (pgT_nm 4 nd__law_swing) (sb_cons (ss_append (sy := true) (sl_var 3) (se_op (s := true) (sa := true) (sb := true) op_addA ok_add (se_idx (s := true) (sa := true) (sb := true) (se_var (s := true) 3) (se_neg (s := true) (sa := true) (se_int (s := true)))) (se_var (s := true) 2))) (sb_one (ss_set (s := true) 2 (se_op (s := true) (sa := true) (sb := true) op_sub ok_sub (se_var (s := true) 2) (se_op (s := true) (sa := true) (sb := true) op_mod ok_mod (se_idx (s := true) (sa := true) (sb := true) (se_var (s := true) 0) (se_op (s := true) (sa := true) (sb := true) op_addA ok_add (se_int (s := true)) (se_op (s := true) (sa := true) (sb := true) op_mod ok_mod (se_var (s := true) 4) (se_int (s := true))))) (se_op (s := true) (sa := true) (sb := true) op_addA ok_add (se_var (s := true) 2) (se_int (s := true))))) (hN := nd__law_swing))))) (sb_one (ss_ret (s := true) (se_mv (s := true) 3))))))) (sb_nil)) (sb_cons (ss_set (s := true) 5 (se_op (s := true) (sa := true) (sb := true) op_addA ok_add (se_int (s := true)) (se_op (s := true) (sa := true) (sb := true) op_mod ok_mod (se_idx (s := true) (sa := true) (sb := true) (se_var (s := true) 0) (se_int (s := true))) (se_op (s := true) (sa := true) (sb := true) op_pow ok_pow (se_int (s := true)) (se_int (s := true))))) (hN := nd__law_swing)) (sb_one (ss_ret (s := true) (se_op (s := true) (sa := true) (sb := true) op_addA ok_add (se_lst (s := true) (sa_ev (s := true) (sa := true) (sb := true) (se_int (s := true)) (sa_nil))) (se_b1 (s := true) (sa := true) cr_sortedI ok_sorted (se_lc (s := true) (sa := true) (sb := true) (sc := true) (own := [("k", 4)]) rfl nd__law_swing (si_range2 (s := true) (sa := true) (sb := true) (se_int (s := true)) (se_var (s := true) 1) (F.free 0)) (blk_ok (by kernel_rfl)) (fun _ _ _ _ _ => pgT_nm 4 nd__law_swing) (fun _ _ _ _ _ => pts_yes) (fun _ _ _ _ _ => se_op (s := true) (sa := true) (sb := true) op_addA ok_add (se_var (s := true) 5) (se_op (s := true) (sa := true) (sb := true) op_mod ok_mod (se_idx (s := true) (sa := true) (sb := true) (se_var (s := true) 0) (se_op (s := true) (sa := true) (sb := true) op_addA ok_add (se_int (s := true)) (se_op (s := true) (sa := true) (sb := true) op_mod ok_mod (se_var (s := true) 4) (se_int (s := true))))) (se_op (s := true) (sa := true) (sb := true) op_addA ok_add (se_var (s := true) 5) (se_int (s := true)))))) (F.free 1) bt_sorted)))))
theorem ok__law_swing (F : Fx fa ck fn K mg) : DefOk P w K mg base 1 (He.fAd K ("_law_swing", none)) 2 [] F__law_swing := by
  obtain ⟨fd, Fd⟩ := F.def_ 27 (d := d__law_swing) rfl
  exact def_law (fc := c__law_swing) Fd sc__law_swing rfl rfl rfl rfl (bd0 rfl rfl Fd fun _ _ _ _ _ _ us hl => match us, hl with | [_, _], _ => rfl) fun cdv A outer s H E hr => sb__law_swing F cdv A outer s H E hr
theorem nd__law_spec : (["cell", "more", "xs", "zones", "k", "whole", "counts", "many", "cells", "lap"] : List Str).Nodup := by decide +kernel
theorem sc__law_spec : FnScope ["cell", "more", "xs", "zones", "k", "whole", "counts", "many", "cells", "lap"] ["cell", "more"] d__law_spec.scope := ⟨rfl, rfl, rfl, nd__law_spec, rfl, by decide +kernel, by decide +kernel⟩
theorem sb__law_spec (F : Fx fa ck fn K mg) (cdv : Value) (A : Around) (outer : List Env) (s : Shared) (H : Hp) (E : XK) (hr : Room 1 (A.deeper (envOfC d__law_spec.qual d__law_spec.scope s.heap.objs.size (He.fAd K d__law_spec.at_) cdv))) :
    SB (cxOf (L2.CX P w) P w K mg base ["cell", "more", "xs", "zones", "k", "whole", "counts", "many", "cells", "lap"] d__law_spec.qual d__law_spec.scope (He.fAd K d__law_spec.at_) cdv A outer s H E) (fun cls d _ H => E cls d H) (ioIx c__law_spec.io) d__law_spec.body c__law_spec.body := by
  have tk : Takes (cxOf (L2.CX P w) P w K mg base ["cell", "more", "xs", "zones", "k", "whole", "counts", "many", "cells", "lap"] d__law_spec.qual d__law_spec.scope (He.fAd K d__law_spec.at_) cdv A outer s H E) (fun cls d _ H => E cls d H) := takes_of rfl rfl rfl rfl
  exact sb_cons (ss_set (s := false) 2 (se_call ((ok__law_stream F).callee (k := 1) (k' := 1) (dfl := []) 0) (F.glo 2) (ok__law_stream (P := P) (w := w) (base := base) F).kp hr tk (sa_w (sa_ev (s := true) (sa := true) (sb := true) (se_use (s := true) 0) (sa_ev (s := true) (sa := true) (sb := true) (se_int (s := true)) (sa_nil))))) (hN := nd__law_spec)) (sb_cons (ss_set (s := true) 3 (se_lst (s := true) (sa_ev (s := true) (sa := true) (sb := true) (se_tup (s := true) (sa_ev (s := true) (sa := true) (sb := true) (se_op (s := true) (sa := true) (sb := true) op_addA ok_add (se_int (s := true)) (se_op (s := true) (sa := true) (sb := true) op_mod ok_mod (se_idx (s := true) (sa := true) (sb := true) (se_var (s := true) 2) (se_int (s := true))) (se_int (s := true)))) (sa_ev (s := true) (sa := true) (sb := true) (se_op (s := true) (sa := true) (sb := true) op_addA ok_add (se_int (s := true)) (se_op (s := true) (sa := true) (sb := true) op_mod ok_mod (se_idx (s := true) (sa := true) (sb := true) (se_var (s := true) 2) (se_int (s := true))) (se_int (s := true)))) (sa_nil)))) (sa_nil))) (hN := nd__law_spec)) (sb_cons (ss_for (s := true) (t := .nm 4) (passes_of rfl) rfl (si_range1 (s := true) (se_op (s := true) (sa := true) (sb := true) op_mod ok_mod (se_idx (s := true) (sa := true) (sb := true) (se_var (s := true) 2) (se_int (s := true))) (se_int (s := true))) (F.free 0)) (pgT_nm 4 nd__law_spec) (sb_one (ss_append (sy := true) (sl_var 3) (se_tup (s := true) (sa_ev (s := true) (sa := true) (sb := true) (se_op (s := true) (sa := true) (sb := true) op_addA ok_add (se_int (s := true)) (se_op (s := true) (sa := true) (sb := true) op_mod ok_mod (se_idx (s := true) (sa := true) (sb := true) (se_var (s := true) 2) (se_op (s := true) (sa := true) (sb := true) op_addA ok_add (se_int (s := true)) (se_op (s := true) (sa := true) (sb := true) op_mulA ok_mul (se_int (s := true)) (se_var (s := true) 4)))) (se_int (s := true)))) (sa_ev (s := true) (sa := true) (sb := true) (se_op (s := true) (sa := true) (sb := true) op_addA ok_add (se_int (s := true)) (se_op (s := true) (sa := true) (sb := true) op_mod ok_mod (se_idx (s := true) (sa := true) (sb := true) (se_var (s := true) 2) (se_op (s := true) (sa := true) (sb := true) op_addA ok_add (se_int (s := true)) (se_op (s := true) (sa := true) (sb := true) op_mulA ok_mul (se_int (s := true)) (se_var (s := true) 4)))) (se_int (s := true)))) (sa_nil))))))) (sb_cons (ss_set (s := true) 5 (se_int (s := true)) (hN := nd__law_spec)) (sb_cons (ss_set (s := true) 6 (se_lst (s := true) (sa_nil)) (hN := nd__law_spec)) (sb_cons (ss_for (s := true) (t := .tp [7, 8]) (passes_of rfl) rfl (si_any (s := true) (se_use (s := true) 3)) (pg_tup rfl (pgs_cons (pg_nm 7 nd__law_spec) (pgs_cons (pg_nm 8 nd__law_spec) (pgs_nil)))) (sb_cons (ss_set (s := true) 5 (se_op (s := true) (sa := true) (sb := true) op_mulA ok_mul (se_var (s := true) 5) (se_var (s := true) 8)) (hN := nd__law_spec)) (sb_one (ss_set (s := true) 6 (se_op (s := true) (sa := true) (sb := true) op_addA ok_add (se_var (s := true) 6) (se_op (s := true) (sa := true) (sb := true) op_mulA ok_mul (se_lst (s := true) (sa_ev (s := true) (sa := true) (sb := true) (se_use (s := true) 8) (sa_nil))) (se_var (s := true) 7))) (hN := nd__law_spec))))) (sb_cons (ss_set (s := true) 9 (se_op (s := true) (sa := true) (sb := true) op_mulA ok_mul (se_var (s := true) 5) (se_op (s := true) (sa := true) (sb := true) op_addA ok_add (se_int (s := true)) (se_op (s := true) (sa := true) (sb := true) op_mod ok_mod (se_idx (s := true) (sa := true) (sb := true) (se_var (s := true) 2) (se_int (s := true))) (se_int (s := true))))) (hN := nd__law_spec)) (sb_cons (ss_if (s := true) (st_cmp (s := true) (sa := true) (sb := true) (op_eqD hr.units) ok_eqD (se_op (s := true) (sa := true) (sb := true) op_mod ok_mod (se_idx (s := true) (sa := true) (sb := true) (se_var (s := true) 2) (se_int (s := true))) (se_int (s := true))) (se_int (s := true))) (sb_one (ss_set (s := true) 9 (se_op (s := true) (sa := true) (sb := true) op_mulA ok_mul (se_var (s := true) 5) (se_op (s := true) (sa := true) (sb := true) op_addA ok_add (se_int (s := true)) (se_op (s := true) (sa := true) (sb := true) op_mod ok_mod (se_var (s := true) 1) (se_op (s := true) (sa := true) (sb := true) op_fdiv ok_div (se_op (s := true) (sa := true) (sb := true) op_pow ok_pow (se_int (s := true)) (se_int (s := true))) (se_var (s := true) 5))))) (hN := nd__law_spec))) (sb_nil)) (sb_one (ss_ret (s := false) (se_tup (s := false) (sa_ev (s := false) (sa := true) (sb := false) (se_use (s := true) 3) (sa_ev (s := false) (sa := true) (sb := false) (se_use (s := true) 6) (sa_ev (s := false) (sa := true) (sb := false) (se_use (s := true) 9) (sa_ev (s := false) (sa := true) (sb := false) (se_op (s := true) (sa := true) (sb := true) op_mod ok_mod (se_idx (s := true) (sa := true) (sb := true) (se_var (s := true) 2) (se_int (s := true))) (se_var (s := true) 9)) (sa_ev (s := false) (sa := false) (sb := true) (se_call ((ok__law_swing F).callee (k := 1) (k' := 1) (dfl := []) 0) (F.glo 4) (ok__law_swing (P := P) (w := w) (base := base) F).kp hr tk (sa_w (sa_ev (s := true) (sa := true) (sb := true) (se_use (s := true) 2) (sa_ev (s := true) (sa := true) (sb := true) (se_b1 (s := true) (sa := true) call_lenA ok_len (se_var (s := true) 6) (F.free 3) bt_len) (sa_nil))))) (sa_nil))))))))))))))))
theorem ok__law_spec (F : Fx fa ck fn K mg) : DefOk P w K mg base 2 (He.fAd K ("_law_spec", none)) 2 [] F__law_spec := by
  obtain ⟨fd, Fd⟩ := F.def_ 28 (d := d__law_spec) rfl
  exact def_law (fc := c__law_spec) Fd sc__law_spec rfl rfl rfl rfl (bd0 rfl rfl Fd fun _ _ _ _ _ _ us hl => match us, hl with | [_, _], _ => rfl) fun cdv A outer s H E hr => sb__law_spec F cdv A outer s H E hr
theorem nd_ring_counts : (["zones", "counts", "many", "cells", "ring"] : List Str).Nodup := by decide +kernel
theorem sc_ring_counts : FnScope ["zones", "counts", "many", "cells", "ring"] ["zones"] d_ring_counts.scope := ⟨rfl, rfl, rfl, nd_ring_counts, rfl, by decide +kernel, by decide +kernel⟩
theorem sb_ring_counts (F : Fx fa ck fn K mg) (cdv : Value) (A : Around) (outer : List Env) (s : Shared) (H : Hp) (E : XK) (hr : Room 0 (A.deeper (envOfC d_ring_counts.qual d_ring_counts.scope s.heap.objs.size (He.fAd K d_ring_counts.at_) cdv))) :
    SB (cxOf (L2.CX P w) P w K mg base ["zones", "counts", "many", "cells", "ring"] d_ring_counts.qual d_ring_counts.scope (He.fAd K d_ring_counts.at_) cdv A outer s H E) (fun cls d _ H => E cls d H) (ioIx c_ring_counts.io) d_ring_counts.body c_ring_counts.body := by
  have tk : Takes (cxOf (L2.CX P w) P w K mg base ["zones", "counts", "many", "cells", "ring"] d_ring_counts.qual d_ring_counts.scope (He.fAd K d_ring_counts.at_) cdv A outer s H E) (fun cls d _ H => E cls d H) := takes_of rfl rfl rfl rfl
  exact sb_cons (ss_if (s := true) (st_not (s := true) (st_chain (s := true) (sa := true) (sb := true) (sc := true) op_le op_le (se_int (s := true)) (se_b1 (s := true) (sa := true) call_lenA ok_len (se_var (s := true) 0) (F.free 3) bt_len) (se_int (s := true)))) (sb_one (ss_never)) (sb_nil)) (sb_cons (ss_set (s := true) 1 (se_lst (s := true) (sa_nil)) (hN := nd_ring_counts)) (sb_cons (ss_for (s := true) (t := .tp [2, 3]) (passes_of rfl) rfl (si_any (s := true) (se_use (s := true) 0)) (pg_tup rfl (pgs_cons (pg_nm 2 nd_ring_counts) (pgs_cons (pg_nm 3 nd_ring_counts) (pgs_nil)))) (sb_cons (ss_if (s := true) (SW.st (sw_or (s := true) (sa := true) (sb := true) (st_not (s := true) (st_chain (s := true) (sa := true) (sb := true) (sc := true) op_le op_le (se_int (s := true)) (se_var (s := true) 2) (se_int (s := true)))) (sw_or1 (s := true) (st_not (s := true) (st_chain (s := true) (sa := true) (sb := true) (sc := true) op_le op_le (se_int (s := true)) (se_var (s := true) 3) (se_int (s := true))))))) (sb_one (ss_never)) (sb_nil)) (sb_one (ss_for (s := true) (t := .nm 4) (passes_of rfl) rfl (si_range1 (s := true) (se_var (s := true) 2) (F.free 0)) (pgT_nm 4 nd_ring_counts) (sb_one (ss_append (sy := true) (sl_var 1) (se_use (s := true) 3))))))) (sb_cons (ss_if (s := true) (st_not (s := true) (st_chain (s := true) (sa := true) (sb := true) (sc := true) op_le op_le (se_int (s := true)) (se_b1 (s := true) (sa := true) call_lenA ok_len (se_var (s := true) 1) (F.free 3) bt_len) (se_int (s := true)))) (sb_one (ss_never)) (sb_nil)) (sb_one (ss_ret (s := true) (se_mv (s := true) 1))))))
theorem ok_ring_counts (F : Fx fa ck fn K mg) : DefOk P w K mg base 1 (He.fAd K ("ring_counts", none)) 1 [] F_ring_counts := by
  obtain ⟨fd, Fd⟩ := F.def_ 11 (d := d_ring_counts) rfl
  exact def_law (fc := c_ring_counts) Fd sc_ring_counts rfl rfl rfl rfl (bd0 rfl rfl Fd fun _ _ _ _ _ _ us hl => match us, hl with | [_], _ => rfl) fun cdv A outer s H E hr => sb_ring_counts F cdv A outer s H E hr
theorem nd_check_lap : (["counts", "lap", "skew", "cells"] : List Str).Nodup := by decide +kernel
theorem sc_check_lap : FnScope ["counts", "lap", "skew", "cells"] ["counts", "lap", "skew"] d_check_lap.scope := ⟨rfl, rfl, rfl, nd_check_lap, rfl, by decide +kernel, by decide +kernel⟩
theorem sb_check_lap (F : Fx fa ck fn K mg) (cdv : Value) (A : Around) (outer : List Env) (s : Shared) (H : Hp) (E : XK) (hr : Room 0 (A.deeper (envOfC d_check_lap.qual d_check_lap.scope s.heap.objs.size (He.fAd K d_check_lap.at_) cdv))) :
    SB (cxOf (L2.CX P w) P w K mg base ["counts", "lap", "skew", "cells"] d_check_lap.qual d_check_lap.scope (He.fAd K d_check_lap.at_) cdv A outer s H E) (fun cls d _ H => E cls d H) (ioIx c_check_lap.io) d_check_lap.body c_check_lap.body := by
  have tk : Takes (cxOf (L2.CX P w) P w K mg base ["counts", "lap", "skew", "cells"] d_check_lap.qual d_check_lap.scope (He.fAd K d_check_lap.at_) cdv A outer s H E) (fun cls d _ H => E cls d H) := takes_of rfl rfl rfl rfl
  exact sb_cons (ss_if (s := true) (SW.st (sw_or (s := true) (sa := true) (sb := true) (st_not (s := true) (st_chain (s := true) (sa := true) (sb := true) (sc := true) op_le op_le (se_int (s := true)) (se_var (s := true) 1) (se_gint (s := true) (F.int 5)))) (sw_or1 (s := true) (st_not (s := true) (st_chain (s := true) (sa := true) (sb := true) (sc := true) op_le op_lt (se_int (s := true)) (se_var (s := true) 2) (se_var (s := true) 1)))))) (sb_one (ss_never)) (sb_nil)) (sb_one (ss_for (s := true) (t := .nm 3) (passes_of rfl) rfl (si_any (s := true) (se_use (s := true) 0)) (pgT_nm 3 nd_check_lap) (sb_one (ss_if (s := true) (st_cmp (s := true) (sa := true) (sb := true) op_gt ok_gt (se_op (s := true) (sa := true) (sb := true) op_mod ok_mod (se_var (s := true) 1) (se_var (s := true) 3)) (se_int (s := true))) (sb_one (ss_never)) (sb_nil)))))
theorem ok_check_lap (F : Fx fa ck fn K mg) : DefOk P w K mg base 1 (He.fAd K ("check_lap", none)) 3 [] F_check_lap := by
  obtain ⟨fd, Fd⟩ := F.def_ 12 (d := d_check_lap) rfl
  exact def_law (fc := c_check_lap) Fd sc_check_lap rfl rfl rfl rfl (bd0 rfl rfl Fd fun _ _ _ _ _ _ us hl => match us, hl with | [_, _, _], _ => rfl) fun cdv A outer s H E hr => sb_check_lap F cdv A outer s H E hr
theorem nd_check_swing : (["swing", "rings", "far", "one", "other"] : List Str).Nodup := by decide +kernel
theorem sc_check_swing : FnScope ["swing", "rings", "far", "one", "other"] ["swing", "rings"] d_check_swing.scope := ⟨rfl, rfl, rfl, nd_check_swing, rfl, by decide +kernel, by decide +kernel⟩
theorem sb_check_swing (F : Fx fa ck fn K mg) (cdv : Value) (A : Around) (outer : List Env) (s : Shared) (H : Hp) (E : XK) (hr : Room 0 (A.deeper (envOfC d_check_swing.qual d_check_swing.scope s.heap.objs.size (He.fAd K d_check_swing.at_) cdv))) :
    SB (cxOf (L2.CX P w) P w K mg base ["swing", "rings", "far", "one", "other"] d_check_swing.qual d_check_swing.scope (He.fAd K d_check_swing.at_) cdv A outer s H E) (fun cls d _ H => E cls d H) (ioIx c_check_swing.io) d_check_swing.body c_check_swing.body := by
  have tk : Takes (cxOf (L2.CX P w) P w K mg base ["swing", "rings", "far", "one", "other"] d_check_swing.qual d_check_swing.scope (He.fAd K d_check_swing.at_) cdv A outer s H E) (fun cls d _ H => E cls d H) := takes_of rfl rfl rfl rfl
  exact sb_cons (ss_if (s := true) (SW.st (sw_or (s := true) (sa := true) (sb := true) (st_cmp (s := true) (sa := true) (sb := true) (op_neD hr.units) ok_neD (se_b1 (s := true) (sa := true) call_lenA ok_len (se_var (s := true) 0) (F.free 3) bt_len) (se_var (s := true) 1)) (sw_or1 (s := true) (st_cmp (s := true) (sa := true) (sb := true) (op_neD hr.units) ok_neD (se_idx (s := true) (sa := true) (sb := true) (se_var (s := true) 0) (se_int (s := true))) (se_int (s := true)))))) (sb_one (ss_never)) (sb_nil)) (sb_cons (ss_for (s := true) (t := .nm 2) (passes_of rfl) rfl (si_range2 (s := true) (sa := true) (sb := true) (se_int (s := true)) (se_var (s := true) 1) (F.free 0)) (pgT_nm 2 nd_check_swing) (sb_one (ss_if (s := true) (SW.st (sw_or (s := true) (sa := true) (sb := true) (st_not (s := true) (st_chain (s := true) (sa := true) (sb := true) (sc := true) op_le op_le (se_int (s := true)) (se_idx (s := true) (sa := true) (sb := true) (se_var (s := true) 0) (se_var (s := true) 2)) (se_gint (s := true) (F.int 5)))) (sw_or1 (s := true) (st_cmp (s := true) (sa := true) (sb := true) op_lt ok_lt (se_idx (s := true) (sa := true) (sb := true) (se_var (s := true) 0) (se_var (s := true) 2)) (se_idx (s := true) (sa := true) (sb := true) (se_var (s := true) 0) (se_op (s := true) (sa := true) (sb := true) op_sub ok_sub (se_var (s := true) 2) (se_int (s := true)))))))) (sb_one (ss_never)) (sb_nil)))) (sb_one (ss_for (s := true) (t := .nm 3) (passes_of rfl) rfl (si_range2 (s := true) (sa := true) (sb := true) (se_int (s := true)) (se_var (s := true) 1) (F.free 0)) (pgT_nm 3 nd_check_swing) (sb_one (ss_for (s := true) (t := .nm 4) (passes_of rfl) rfl (si_range2 (s := true) (sa := true) (sb := true) (se_var (s := true) 3) (se_op (s := true) (sa := true) (sb := true) op_sub ok_sub (se_var (s := true) 1) (se_var (s := true) 3)) (F.free 0)) (pgT_nm 4 nd_check_swing) (sb_one (ss_if (s := true) (st_cmp (s := true) (sa := true) (sb := true) op_gt ok_gt (se_idx (s := true) (sa := true) (sb := true) (se_var (s := true) 0) (se_op (s := true) (sa := true) (sb := true) op_addA ok_add (se_var (s := true) 3) (se_var (s := true) 4))) (se_op (s := true) (sa := true) (sb := true) op_addA ok_add (se_idx (s := true) (sa := true) (sb := true) (se_var (s := true) 0) (se_var (s := true) 3)) (se_idx (s := true) (sa := true) (sb := true) (se_var (s := true) 0) (se_var (s := true) 4)))) (sb_one (ss_never)) (sb_nil))))))))
theorem ok_check_swing (F : Fx fa ck fn K mg) : DefOk P w K mg base 1 (He.fAd K ("check_swing", none)) 2 [] F_check_swing := by
  obtain ⟨fd, Fd⟩ := F.def_ 13 (d := d_check_swing) rfl
  exact def_law (fc := c_check_swing) Fd sc_check_swing rfl rfl rfl rfl (bd0 rfl rfl Fd fun _ _ _ _ _ _ us hl => match us, hl with | [_, _], _ => rfl) fun cdv A outer s H E hr => sb_check_swing F cdv A outer s H E hr
theorem nd_PlateUU_initUU : (["self", "zones", "lap", "skew", "swing"] : List Str).Nodup := by decide +kernel
theorem sc_PlateUU_initUU : FnScope ["self", "zones", "lap", "skew", "swing"] ["self", "zones", "lap", "skew", "swing"] d_PlateUU_initUU.scope := ⟨rfl, rfl, rfl, nd_PlateUU_initUU, rfl, by decide +kernel, by decide +kernel⟩
theorem sb_PlateUU_initUU (F : Fx fa ck fn K mg) (cdv : Value) (A : Around) (outer : List Env) (s : Shared) (H : Hp) (E : XK) (hr : Room 1 (A.deeper (envOfC d_PlateUU_initUU.qual d_PlateUU_initUU.scope s.heap.objs.size (He.fAd K d_PlateUU_initUU.at_) cdv))) :
    SB (cxOf (L2.CX P w) P w K mg base ["self", "zones", "lap", "skew", "swing"] d_PlateUU_initUU.qual d_PlateUU_initUU.scope (He.fAd K d_PlateUU_initUU.at_) cdv A outer s H E) (fun cls d _ H => E cls d H) (ioIx c_PlateUU_initUU.io) d_PlateUU_initUU.body c_PlateUU_initUU.body := by
  have tk : Takes (cxOf (L2.CX P w) P w K mg base ["self", "zones", "lap", "skew", "swing"] d_PlateUU_initUU.qual d_PlateUU_initUU.scope (He.fAd K d_PlateUU_initUU.at_) cdv A outer s H E) (fun cls d _ H => E cls d H) := takes_of rfl rfl rfl rfl
  exact sb_cons (ss_fld (s := false) (FO F) 0 .n_counts (se_frl (se_call ((ok_ring_counts F).callee (k := 1) (k' := 1) (dfl := []) 0) (F.glo 6) (ok_ring_counts (P := P) (w := w) (base := base) F).kp hr tk (sa_w (sa_ev (s := true) (sa := true) (sb := true) (se_use (s := true) 1) (sa_nil)))))) (sb_cons (ss_expr (s := false) (se_call ((ok_check_lap F).callee (k := 1) (k' := 1) (dfl := []) 0) (F.glo 7) (ok_check_lap (P := P) (w := w) (base := base) F).kp hr tk (sa_w (sa_ev (s := true) (sa := true) (sb := true) (se_fld (s := true) (FO F) .n_counts (se_var (s := true) 0)) (sa_ev (s := true) (sa := true) (sb := true) (se_use (s := true) 2) (sa_ev (s := true) (sa := true) (sb := true) (se_use (s := true) 3) (sa_nil))))))) (sb_cons (ss_expr (s := false) (se_call ((ok_check_swing F).callee (k := 1) (k' := 1) (dfl := []) 0) (F.glo 8) (ok_check_swing (P := P) (w := w) (base := base) F).kp hr tk (sa_w (sa_ev (s := true) (sa := true) (sb := true) (se_use (s := true) 4) (sa_ev (s := true) (sa := true) (sb := true) (se_b1 (s := true) (sa := true) call_lenA ok_len (se_fld (s := true) (FO F) .n_counts (se_var (s := true) 0)) (F.free 3) bt_len) (sa_nil)))))) (sb_cons (ss_fld (s := true) (FO F) 0 .n_lap (se_use (s := true) 2)) (sb_cons (ss_fld (s := true) (FO F) 0 .n_skew (se_use (s := true) 3)) (sb_cons (ss_fld (s := true) (FO F) 0 .n_swings (se_frl (se_t1 (s := true) (sa := true) call_list_of ok_list (se_var (s := true) 4) (F.free 9) bt_list))) (sb_one (ss_fld (s := true) (FO F) 0 .n_spare (se_int (s := true)))))))))
theorem ok_PlateUU_initUU (F : Fx fa ck fn K mg) : DefOk P w K mg base 2 (He.fAd K ("Plate", some "__init__")) 5 [] F_PlateUU_initUU := by
  obtain ⟨fd, Fd⟩ := F.def_ 14 (d := d_PlateUU_initUU) rfl
  exact def_law (fc := c_PlateUU_initUU) Fd sc_PlateUU_initUU rfl rfl rfl rfl (bd0 rfl rfl Fd fun _ _ _ _ _ _ us hl => match us, hl with | [_, _, _, _, _], _ => rfl) fun cdv A outer s H E hr => sb_PlateUU_initUU F cdv A outer s H E hr
theorem nd_Plate_plain_number : (["self", "ring", "place"] : List Str).Nodup := by decide +kernel
theorem sc_Plate_plain_number : FnScope ["self", "ring", "place"] ["self", "ring", "place"] d_Plate_plain_number.scope := ⟨rfl, rfl, rfl, nd_Plate_plain_number, rfl, by decide +kernel, by decide +kernel⟩
theorem sb_Plate_plain_number (F : Fx fa ck fn K mg) (cdv : Value) (A : Around) (outer : List Env) (s : Shared) (H : Hp) (E : XK) (hr : Room 0 (A.deeper (envOfC d_Plate_plain_number.qual d_Plate_plain_number.scope s.heap.objs.size (He.fAd K d_Plate_plain_number.at_) cdv))) :
    SB (cxOf (L2.CX P w) P w K mg base ["self", "ring", "place"] d_Plate_plain_number.qual d_Plate_plain_number.scope (He.fAd K d_Plate_plain_number.at_) cdv A outer s H E) (fun cls d _ H => E cls d H) (ioIx c_Plate_plain_number.io) d_Plate_plain_number.body c_Plate_plain_number.body := by
  have tk : Takes (cxOf (L2.CX P w) P w K mg base ["self", "ring", "place"] d_Plate_plain_number.qual d_Plate_plain_number.scope (He.fAd K d_Plate_plain_number.at_) cdv A outer s H E) (fun cls d _ H => E cls d H) := takes_of rfl rfl rfl rfl
  exact sb_cons (ss_if (s := true) (SW.st (sw_or (s := true) (sa := true) (sb := true) (st_not (s := true) (st_chain (s := true) (sa := true) (sb := true) (sc := true) op_le op_lt (se_int (s := true)) (se_var (s := true) 1) (se_b1 (s := true) (sa := true) call_lenA ok_len (se_fld (s := true) (FO F) .n_counts (se_var (s := true) 0)) (F.free 3) bt_len))) (sw_or1 (s := true) (st_not (s := true) (st_chain (s := true) (sa := true) (sb := true) (sc := true) op_le op_lt (se_int (s := true)) (se_var (s := true) 2) (se_idx (s := true) (sa := true) (sb := true) (se_fld (s := true) (FO F) .n_counts (se_var (s := true) 0)) (se_var (s := true) 1))))))) (sb_one (ss_never)) (sb_nil)) (sb_cons (ss_if (s := true) (st_cmp (s := true) (sa := true) (sb := true) op_ge ok_ge (se_var (s := true) 2) (se_op (s := true) (sa := true) (sb := true) op_sub ok_sub (se_idx (s := true) (sa := true) (sb := true) (se_fld (s := true) (FO F) .n_counts (se_var (s := true) 0)) (se_var (s := true) 1)) (se_fld (s := true) (FO F) .n_spare (se_var (s := true) 0)))) (sb_one (ss_ret (s := true) (se_non (s := true)))) (sb_nil)) (sb_one (ss_ret (s := true) (se_op (s := true) (sa := true) (sb := true) op_addA ok_add (se_op (s := true) (sa := true) (sb := true) op_sub ok_sub (se_b1 (s := true) (sa := true) (cr_sum rfl) ok_sum (se_slc (s := true) (sa := true) (se_fld (s := true) (FO F) .n_counts (se_var (s := true) 0)) so_none (so_some (se_var (s := true) 1))) (F.free 10) bt_sum) (se_op (s := true) (sa := true) (sb := true) op_mulA ok_mul (se_fld (s := true) (FO F) .n_spare (se_var (s := true) 0)) (se_var (s := true) 1))) (se_var (s := true) 2)))))
theorem ok_Plate_plain_number (F : Fx fa ck fn K mg) : DefOk P w K mg base 1 (He.fAd K ("Plate", some "plain_number")) 3 [] F_Plate_plain_number := by
  obtain ⟨fd, Fd⟩ := F.def_ 17 (d := d_Plate_plain_number) rfl
  exact def_law (fc := c_Plate_plain_number) Fd sc_Plate_plain_number rfl rfl rfl rfl (bd0 rfl rfl Fd fun _ _ _ _ _ _ us hl => match us, hl with | [_, _, _], _ => rfl) fun cdv A outer s H E hr => sb_Plate_plain_number F cdv A outer s H E hr
theorem M_plain_number_3 {X : Cx} (F : Fx fa ck fn X.K X.mg) {k' : Nat} (hk : 1 ≤ k' := by decide) : ∀ C np cl dfl, mt_plain_number_3 C = some (np, cl, dfl) → MOk X k' (ca X.K C) (Nm.str .n_plain_number) np cl dfl := mt_ok (List.forall_mem_cons.mpr ⟨mok (F.cls 61) (F.meth 77) rfl ((ok_Plate_plain_number F).callee (k := 1) (k' := k') (dfl := []) 0 (by decide) (Nat.le_trans (by decide) hk)), List.forall_mem_cons.mpr ⟨mok (F.cls 67) (F.meth 76) (F.al 1) ((ok_Plate_plain_number F).callee (k := 1) (k' := k') (dfl := []) 0 (by decide) (Nat.le_trans (by decide) hk)), List.forall_mem_nil _⟩⟩)
theorem nd_Mended_bad_numbers : (["self", "numbers", "ring", "place", "number"] : List Str).Nodup := by decide +kernel
theorem sc_Mended_bad_numbers : FnScope ["self", "numbers", "ring", "place", "number"] ["self"] d_Mended_bad_numbers.scope := ⟨rfl, rfl, rfl, nd_Mended_bad_numbers, rfl, by decide +kernel, by decide +kernel⟩
theorem sb_Mended_bad_numbers (F : Fx fa ck fn K mg) (cdv : Value) (A : Around) (outer : List Env) (s : Shared) (H : Hp) (E : XK) (hr : Room 1 (A.deeper (envOfC d_Mended_bad_numbers.qual d_Mended_bad_numbers.scope s.heap.objs.size (He.fAd K d_Mended_bad_numbers.at_) cdv))) :
    SB (cxOf (L2.CX P w) P w K mg base ["self", "numbers", "ring", "place", "number"] d_Mended_bad_numbers.qual d_Mended_bad_numbers.scope (He.fAd K d_Mended_bad_numbers.at_) cdv A outer s H E) (fun cls d _ H => E cls d H) (ioIx c_Mended_bad_numbers.io) d_Mended_bad_numbers.body c_Mended_bad_numbers.body := by
  have tk : Takes (cxOf (L2.CX P w) P w K mg base ["self", "numbers", "ring", "place", "number"] d_Mended_bad_numbers.qual d_Mended_bad_numbers.scope (He.fAd K d_Mended_bad_numbers.at_) cdv A outer s H E) (fun cls d _ H => E cls d H) := takes_of rfl rfl rfl rfl
  exact sb_cons (by first | exact ss_set (s := false) 1 (se_lck (F := FO F) (sc := false) (own := [("ring", 2), ("place", 3)]) 0 .n_bad rfl nd_Mended_bad_numbers (ok := blk_ok (by kernel_rfl)) (hg := fun _ _ _ _ _ => pg_tup rfl (pgs_cons (pg_nm 2 nd_Mended_bad_numbers) (pgs_cons (pg_nm 3 nd_Mended_bad_numbers) (pgs_nil)))) (he := fun _ _ _ _ _ => se_meth .n_plain_number (nm_inj .n_plain_number) (.io (pv 0 rfl (vis_ok (by rfl)))) (M_plain_number_3 F (k' := 1)) hr takes0 (sa_w (sa_ev (s := true) (sa := true) (sb := true) (se_use (s := true) 2) (sa_ev (s := true) (sa := true) (sb := true) (se_use (s := true) 3) (sa_nil)))))) (hN := nd_Mended_bad_numbers) | exact ss_setLcK (k := 1) (F := FO F) (sc := false) (own := [("ring", 2), ("place", 3)]) 0 .n_bad rfl nd_Mended_bad_numbers (ok := blk_ok (by kernel_rfl)) (hg := fun _ _ _ _ _ => pg_tup rfl (pgs_cons (pg_nm 2 nd_Mended_bad_numbers) (pgs_cons (pg_nm 3 nd_Mended_bad_numbers) (pgs_nil)))) (he := fun _ _ _ _ _ => se_meth .n_plain_number (nm_inj .n_plain_number) (.io (pv 0 rfl (vis_ok (by rfl)))) (M_plain_number_3 F (k' := 1)) hr takes0 (sa_w (sa_ev (s := true) (sa := true) (sb := true) (se_use (s := true) 2) (sa_ev (s := true) (sa := true) (sb := true) (se_use (s := true) 3) (sa_nil)))))) (sb_one (ss_ret (s := true) (se_b1 (s := true) (sa := true) cr_sortedI ok_sorted (se_lc (s := true) (sa := true) (sb := true) (sc := true) (own := [("number", 4)]) rfl nd_Mended_bad_numbers (si_any (s := true) (se_use (s := true) 1)) (blk_ok (by kernel_rfl)) (fun _ _ _ _ _ => pgT_nm 4 nd_Mended_bad_numbers) (fun _ _ _ _ _ => pts_one (st_cmp (s := true) (sa := true) (sb := true) op_notN ok_notN (se_var (s := true) 4) (se_non (s := true)))) (fun _ _ _ _ _ => se_use (s := true) 4)) (F.free 1) bt_sorted)))
theorem ok_Mended_bad_numbers (F : Fx fa ck fn K mg) : DefOk P w K mg base 2 (He.fAd K ("Mended", some "bad_numbers")) 1 [] F_Mended_bad_numbers := by
  obtain ⟨fd, Fd⟩ := F.def_ 21 (d := d_Mended_bad_numbers) rfl
  exact def_law (fc := c_Mended_bad_numbers) Fd sc_Mended_bad_numbers rfl rfl rfl rfl (bd0 rfl rfl Fd fun _ _ _ _ _ _ us hl => match us, hl with | [_], _ => rfl) fun cdv A outer s H E hr => sb_Mended_bad_numbers F cdv A outer s H E hr
theorem nd_Mended_free_cell : (["self", "ring", "far", "other", "place"] : List Str).Nodup := by decide +kernel
theorem sc_Mended_free_cell : FnScope ["self", "ring", "far", "other", "place"] ["self", "ring"] d_Mended_free_cell.scope := ⟨rfl, rfl, rfl, nd_Mended_free_cell, rfl, by decide +kernel, by decide +kernel⟩
theorem sb_Mended_free_cell (F : Fx fa ck fn K mg) (cdv : Value) (A : Around) (outer : List Env) (s : Shared) (H : Hp) (E : XK) (hr : Room 0 (A.deeper (envOfC d_Mended_free_cell.qual d_Mended_free_cell.scope s.heap.objs.size (He.fAd K d_Mended_free_cell.at_) cdv))) :
    SB (cxOf (L2.CX P w) P w K mg base ["self", "ring", "far", "other", "place"] d_Mended_free_cell.qual d_Mended_free_cell.scope (He.fAd K d_Mended_free_cell.at_) cdv A outer s H E) (fun cls d _ H => E cls d H) (ioIx c_Mended_free_cell.io) d_Mended_free_cell.body c_Mended_free_cell.body := by
  have tk : Takes (cxOf (L2.CX P w) P w K mg base ["self", "ring", "far", "other", "place"] d_Mended_free_cell.qual d_Mended_free_cell.scope (He.fAd K d_Mended_free_cell.at_) cdv A outer s H E) (fun cls d _ H => E cls d H) := takes_of rfl rfl rfl rfl
  exact sb_cons (ss_for (s := true) (t := .nm 2) (passes_of rfl) rfl (si_range1 (s := true) (se_b1 (s := true) (sa := true) call_lenA ok_len (se_fld (s := true) (FO F) .n_counts (se_var (s := true) 0)) (F.free 3) bt_len) (F.free 0)) (pgT_nm 2 nd_Mended_free_cell) (sb_one (ss_for (s := true) (t := .nm 3) (passes_of rfl) rfl (si_tup (s := true) (se_tup (s := true) (sa_ev (s := true) (sa := true) (sb := true) (se_op (s := true) (sa := true) (sb := true) op_sub ok_sub (se_var (s := true) 1) (se_var (s := true) 2)) (sa_ev (s := true) (sa := true) (sb := true) (se_op (s := true) (sa := true) (sb := true) op_addA ok_add (se_var (s := true) 1) (se_var (s := true) 2)) (sa_nil))))) (pgT_nm 3 nd_Mended_free_cell) (sb_one (ss_if (s := true) (st_chain (s := true) (sa := true) (sb := true) (sc := true) op_le op_lt (se_int (s := true)) (se_var (s := true) 3) (se_b1 (s := true) (sa := true) call_lenA ok_len (se_fld (s := true) (FO F) .n_counts (se_var (s := true) 0)) (F.free 3) bt_len)) (sb_one (ss_for (s := true) (t := .nm 4) (passes_of rfl) rfl (si_range2 (s := true) (sa := true) (sb := true) (se_op (s := true) (sa := true) (sb := true) op_sub ok_sub (se_idx (s := true) (sa := true) (sb := true) (se_fld (s := true) (FO F) .n_counts (se_var (s := true) 0)) (se_var (s := true) 3)) (se_fld (s := true) (FO F) .n_spare (se_var (s := true) 0))) (se_idx (s := true) (sa := true) (sb := true) (se_fld (s := true) (FO F) .n_counts (se_var (s := true) 0)) (se_var (s := true) 3)) (F.free 0)) (pgT_nm 4 nd_Mended_free_cell) (sb_one (ss_if (s := true) (SW.st (sw_and (s := true) (sa := true) (sb := true) (st_dnotin (s := true) (sa := true) (sb := true) (un1 hr.units) (se_tup (s := true) (sa_ev (s := true) (sa := true) (sb := true) (se_use (s := true) 3) (sa_ev (s := true) (sa := true) (sb := true) (se_use (s := true) 4) (sa_nil)))) (se_fld (s := true) (FO F) .n_bad (se_var (s := true) 0))) (sw_and1 (s := true) (st_dnotin (s := true) (sa := true) (sb := true) (un1 hr.units) (se_tup (s := true) (sa_ev (s := true) (sa := true) (sb := true) (se_use (s := true) 3) (sa_ev (s := true) (sa := true) (sb := true) (se_use (s := true) 4) (sa_nil)))) (se_fld (s := true) (FO F) .n_lies (se_var (s := true) 0)))))) (sb_one (ss_ret (s := true) (se_tup (s := true) (sa_ev (s := true) (sa := true) (sb := true) (se_use (s := true) 3) (sa_ev (s := true) (sa := true) (sb := true) (se_use (s := true) 4) (sa_nil)))))) (sb_nil))))) (sb_nil)))))) (sb_one (ss_ret (s := true) (se_non (s := true))))
theorem ok_Mended_free_cell (F : Fx fa ck fn K mg) : DefOk P w K mg base 1 (He.fAd K ("Mended", some "free_cell")) 2 [] F_Mended_free_cell := by
  obtain ⟨fd, Fd⟩ := F.def_ 22 (d := d_Mended_free_cell) rfl
  exact def_law (fc := c_Mended_free_cell) Fd sc_Mended_free_cell rfl rfl rfl rfl (bd0 rfl rfl Fd fun _ _ _ _ _ _ us hl => match us, hl with | [_, _], _ => rfl) fun cdv A outer s H E hr => sb_Mended_free_cell F cdv A outer s H E hr
theorem nd_Plate_plain_cell : (["self", "number", "left", "ring", "own"] : List Str).Nodup := by decide +kernel
theorem sc_Plate_plain_cell : FnScope ["self", "number", "left", "ring", "own"] ["self", "number"] d_Plate_plain_cell.scope := ⟨rfl, rfl, rfl, nd_Plate_plain_cell, rfl, by decide +kernel, by decide +kernel⟩
theorem sb_Plate_plain_cell (F : Fx fa ck fn K mg) (cdv : Value) (A : Around) (outer : List Env) (s : Shared) (H : Hp) (E : XK) (hr : Room 0 (A.deeper (envOfC d_Plate_plain_cell.qual d_Plate_plain_cell.scope s.heap.objs.size (He.fAd K d_Plate_plain_cell.at_) cdv))) :
    SB (cxOf (L2.CX P w) P w K mg base ["self", "number", "left", "ring", "own"] d_Plate_plain_cell.qual d_Plate_plain_cell.scope (He.fAd K d_Plate_plain_cell.at_) cdv A outer s H E) (fun cls d _ H => E cls d H) (ioIx c_Plate_plain_cell.io) d_Plate_plain_cell.body c_Plate_plain_cell.body := by
  have tk : Takes (cxOf (L2.CX P w) P w K mg base ["self", "number", "left", "ring", "own"] d_Plate_plain_cell.qual d_Plate_plain_cell.scope (He.fAd K d_Plate_plain_cell.at_) cdv A outer s H E) (fun cls d _ H => E cls d H) := takes_of rfl rfl rfl rfl
  exact sb_cons (ss_if (s := true) (st_cmp (s := true) (sa := true) (sb := true) op_lt ok_lt (se_var (s := true) 1) (se_int (s := true))) (sb_one (ss_never)) (sb_nil)) (sb_cons (ss_set (s := true) 2 (se_use (s := true) 1) (hN := nd_Plate_plain_cell)) (sb_cons (ss_for (s := true) (t := .nm 3) (passes_of rfl) rfl (si_range1 (s := true) (se_b1 (s := true) (sa := true) call_lenA ok_len (se_fld (s := true) (FO F) .n_counts (se_var (s := true) 0)) (F.free 3) bt_len) (F.free 0)) (pgT_nm 3 nd_Plate_plain_cell) (sb_cons (ss_set (s := true) 4 (se_op (s := true) (sa := true) (sb := true) op_sub ok_sub (se_idx (s := true) (sa := true) (sb := true) (se_fld (s := true) (FO F) .n_counts (se_var (s := true) 0)) (se_var (s := true) 3)) (se_fld (s := true) (FO F) .n_spare (se_var (s := true) 0))) (hN := nd_Plate_plain_cell)) (sb_cons (ss_if (s := true) (st_cmp (s := true) (sa := true) (sb := true) op_lt ok_lt (se_var (s := true) 2) (se_var (s := true) 4)) (sb_one (ss_ret (s := true) (se_tup (s := true) (sa_ev (s := true) (sa := true) (sb := true) (se_use (s := true) 3) (sa_ev (s := true) (sa := true) (sb := true) (se_use (s := true) 2) (sa_nil)))))) (sb_nil)) (sb_one (ss_set (s := true) 2 (se_op (s := true) (sa := true) (sb := true) op_sub ok_sub (se_var (s := true) 2) (se_var (s := true) 4)) (hN := nd_Plate_plain_cell)))))) (sb_one (ss_never))))
theorem ok_Plate_plain_cell (F : Fx fa ck fn K mg) : DefOk P w K mg base 1 (He.fAd K ("Plate", some "plain_cell")) 2 [] F_Plate_plain_cell := by
  obtain ⟨fd, Fd⟩ := F.def_ 16 (d := d_Plate_plain_cell) rfl
  exact def_law (fc := c_Plate_plain_cell) Fd sc_Plate_plain_cell rfl rfl rfl rfl (bd0 rfl rfl Fd fun _ _ _ _ _ _ us hl => match us, hl with | [_, _], _ => rfl) fun cdv A outer s H E hr => sb_Plate_plain_cell F cdv A outer s H E hr
theorem M_bad_numbers_1 {X : Cx} (F : Fx fa ck fn X.K X.mg) {k' : Nat} (hk : 2 ≤ k' := by decide) : ∀ C np cl dfl, mt_bad_numbers_1 C = some (np, cl, dfl) → MOk X k' (ca X.K C) (Nm.str .n_bad_numbers) np cl dfl := mt_ok (List.forall_mem_cons.mpr ⟨mok (F.cls 67) (F.meth 78) rfl ((ok_Mended_bad_numbers F).callee (k := 2) (k' := k') (dfl := []) 0 (by decide) (Nat.le_trans (by decide) hk)), List.forall_mem_nil _⟩)
theorem M_free_cell_2 {X : Cx} (F : Fx fa ck fn X.K X.mg) {k' : Nat} (hk : 1 ≤ k' := by decide) : ∀ C np cl dfl, mt_free_cell_2 C = some (np, cl, dfl) → MOk X k' (ca X.K C) (Nm.str .n_free_cell) np cl dfl := mt_ok (List.forall_mem_cons.mpr ⟨mok (F.cls 67) (F.meth 79) rfl ((ok_Mended_free_cell F).callee (k := 1) (k' := k') (dfl := []) 0 (by decide) (Nat.le_trans (by decide) hk)), List.forall_mem_nil _⟩)
theorem M_plain_cell_2 {X : Cx} (F : Fx fa ck fn X.K X.mg) {k' : Nat} (hk : 1 ≤ k' := by decide) : ∀ C np cl dfl, mt_plain_cell_2 C = some (np, cl, dfl) → MOk X k' (ca X.K C) (Nm.str .n_plain_cell) np cl dfl := mt_ok (List.forall_mem_cons.mpr ⟨mok (F.cls 61) (F.meth 81) rfl ((ok_Plate_plain_cell F).callee (k := 1) (k' := k') (dfl := []) 0 (by decide) (Nat.le_trans (by decide) hk)), List.forall_mem_cons.mpr ⟨mok (F.cls 67) (F.meth 80) (F.al 2) ((ok_Plate_plain_cell F).callee (k := 1) (k' := k') (dfl := []) 0 (by decide) (Nat.le_trans (by decide) hk)), List.forall_mem_nil _⟩⟩)
theorem nd_MendedUU_initUU : (["self", "zones", "lap", "skew", "swing", "spares", "bad", "ring", "place", "number", "cell"] : List Str).Nodup := by decide +kernel
theorem sc_MendedUU_initUU : FnScope ["self", "zones", "lap", "skew", "swing", "spares", "bad", "ring", "place", "number", "cell"] ["self", "zones", "lap", "skew", "swing", "spares", "bad"] d_MendedUU_initUU.scope := ⟨rfl, rfl, rfl, nd_MendedUU_initUU, rfl, by decide +kernel, by decide +kernel⟩
theorem sb_MendedUU_initUU (F : Fx fa ck fn K mg) (cdv : Value) (A : Around) (outer : List Env) (s : Shared) (H : Hp) (E : XK) (hr : Room 2 (A.deeper (envOfC d_MendedUU_initUU.qual d_MendedUU_initUU.scope s.heap.objs.size (He.fAd K d_MendedUU_initUU.at_) cdv))) :
    SB (cxOf (L2.CX P w) P w K mg base ["self", "zones", "lap", "skew", "swing", "spares", "bad", "ring", "place", "number", "cell"] d_MendedUU_initUU.qual d_MendedUU_initUU.scope (He.fAd K d_MendedUU_initUU.at_) cdv A outer s H E) (fun cls d _ H => E cls d H) (ioIx c_MendedUU_initUU.io) d_MendedUU_initUU.body c_MendedUU_initUU.body := by
  have tk : Takes (cxOf (L2.CX P w) P w K mg base ["self", "zones", "lap", "skew", "swing", "spares", "bad", "ring", "place", "number", "cell"] d_MendedUU_initUU.qual d_MendedUU_initUU.scope (He.fAd K d_MendedUU_initUU.at_) cdv A outer s H E) (fun cls d _ H => E cls d H) := takes_of rfl rfl rfl rfl
  exact sb_cons (ss_expr (s := false) (se_umeth ((ok_PlateUU_initUU F).callee (k := 2) (k' := 2) (dfl := []) 0) (F.uok 0) (F.glo 11) hr tk (sa_w (sa_io (s := true) 0 (sa_ev (s := true) (sa := true) (sb := true) (se_use (s := true) 1) (sa_ev (s := true) (sa := true) (sb := true) (se_use (s := true) 2) (sa_ev (s := true) (sa := true) (sb := true) (se_use (s := true) 3) (sa_ev (s := true) (sa := true) (sb := true) (se_use (s := true) 4) (sa_nil))))))))) (sb_cons (ss_if (s := true) (SW.st (sw_or (s := true) (sa := true) (sb := true) (st_cmp (s := true) (sa := true) (sb := true) op_lt ok_lt (se_var (s := true) 5) (se_int (s := true))) (sw_or1 (s := true) (st_cmp (s := true) (sa := true) (sb := true) op_ge ok_ge (se_var (s := true) 5) (se_b1 (s := true) (sa := true) (cr_min rfl) ok_min (se_fld (s := true) (FO F) .n_counts (se_var (s := true) 0)) (F.free 12) bt_min))))) (sb_one (ss_never)) (sb_nil)) (sb_cons (ss_fld (s := true) (FO F) 0 .n_spare (se_use (s := true) 5)) (sb_cons (ss_fld (s := true) (FO F) 0 .n_bad (se_dtN (s := true))) (sb_cons (ss_for (s := true) (t := .tp [7, 8]) (passes_of rfl) rfl (si_any (s := true) (se_use (s := true) 6)) (pg_tup rfl (pgs_cons (pg_nm 7 nd_MendedUU_initUU) (pgs_cons (pg_nm 8 nd_MendedUU_initUU) (pgs_nil)))) (sb_cons (ss_if (s := true) (SW.st (sw_or (s := true) (sa := true) (sb := true) (st_not (s := true) (st_chain (s := true) (sa := true) (sb := true) (sc := true) op_le op_lt (se_int (s := true)) (se_var (s := true) 7) (se_b1 (s := true) (sa := true) call_lenA ok_len (se_fld (s := true) (FO F) .n_counts (se_var (s := true) 0)) (F.free 3) bt_len))) (sw_or1 (s := true) (st_not (s := true) (st_chain (s := true) (sa := true) (sb := true) (sc := true) op_le op_lt (se_int (s := true)) (se_var (s := true) 8) (se_idx (s := true) (sa := true) (sb := true) (se_fld (s := true) (FO F) .n_counts (se_var (s := true) 0)) (se_var (s := true) 7))))))) (sb_one (ss_never)) (sb_nil)) (sb_cons (ss_if (s := true) (st_din (s := true) (sa := true) (sb := true) (un1 hr.units) (se_tup (s := true) (sa_ev (s := true) (sa := true) (sb := true) (se_use (s := true) 7) (sa_ev (s := true) (sa := true) (sb := true) (se_use (s := true) 8) (sa_nil)))) (se_fld (s := true) (FO F) .n_bad (se_var (s := true) 0))) (sb_one (ss_never)) (sb_nil)) (sb_one (ss_dput (s := true) (sk := true) (un1 hr.units) (se_bl (s := true)) (sl_fld (FO F) .n_bad (sl_var 0)) (se_tup (s := true) (sa_ev (s := true) (sa := true) (sb := true) (se_use (s := true) 7) (sa_ev (s := true) (sa := true) (sb := true) (se_use (s := true) 8) (sa_nil))))))))) (sb_cons (ss_fld (s := true) (FO F) 0 .n_moved (se_dkN (s := true))) (sb_cons (ss_fld (s := true) (FO F) 0 .n_lies (se_dtN (s := true))) (sb_one (ss_for (s := false) (t := .nm 9) (passes_of rfl) rfl (si_any (s := false) (se_meth0 .n_bad_numbers (nm_inj .n_bad_numbers) (.io (pv 0 rfl (vis_ok (by rfl)))) (M_bad_numbers_1 F (k' := 2)) hr tk)) (pgT_nm 9 nd_MendedUU_initUU) (sb_cons (ss_set (s := false) 10 (se_meth .n_free_cell (nm_inj .n_free_cell) (.io (pv 0 rfl (vis_ok (by rfl)))) (M_free_cell_2 F (k' := 2)) hr tk (sa_ev (s := false) (sa := false) (sb := true) (se_idx (s := false) (sa := false) (sb := true) (se_meth .n_plain_cell (nm_inj .n_plain_cell) (.io (pv 0 rfl (vis_ok (by rfl)))) (M_plain_cell_2 F (k' := 2)) hr tk (sa_w (sa_ev (s := true) (sa := true) (sb := true) (se_use (s := true) 9) (sa_nil)))) (se_int (s := true))) (sa_nil))) (hN := nd_MendedUU_initUU)) (sb_cons (ss_if (s := true) (st_cmp (s := true) (sa := true) (sb := true) op_isN ok_isN (se_var (s := true) 10) (se_non (s := true))) (sb_one (ss_never)) (sb_nil)) (sb_cons (ss_dput (s := true) (sk := true) (un1 hr.units) (se_use (s := true) 10) (sl_fld (FO F) .n_moved (sl_var 0)) (se_var (s := true) 9)) (sb_one (ss_dput (s := true) (sk := true) (un1 hr.units) (se_use (s := true) 9) (sl_fld (FO F) .n_lies (sl_var 0)) (se_var (s := true) 10))))))))))))))
theorem ok_MendedUU_initUU (F : Fx fa ck fn K mg) : DefOk P w K mg base 3 (He.fAd K ("Mended", some "__init__")) 7 [] F_MendedUU_initUU := by
  obtain ⟨fd, Fd⟩ := F.def_ 20 (d := d_MendedUU_initUU) rfl
  exact def_law (fc := c_MendedUU_initUU) Fd sc_MendedUU_initUU rfl rfl rfl rfl (bd0 rfl rfl Fd fun _ _ _ _ _ _ us hl => match us, hl with | [_, _, _, _, _, _, _], _ => rfl) fun cdv A outer s H E hr => sb_MendedUU_initUU F cdv A outer s H E hr
theorem nd__law_plate : (["spec", "cell", "xs", "spares", "bad", "k", "ring"] : List Str).Nodup := by decide +kernel
theorem sc__law_plate : FnScope ["spec", "cell", "xs", "spares", "bad", "k", "ring"] ["spec", "cell"] d__law_plate.scope := ⟨rfl, rfl, rfl, nd__law_plate, rfl, by decide +kernel, by decide +kernel⟩
theorem sb__law_plate (F : Fx fa ck fn K mg) (cdv : Value) (A : Around) (outer : List Env) (s : Shared) (H : Hp) (E : XK) (hr : Room 4 (A.deeper (envOfC d__law_plate.qual d__law_plate.scope s.heap.objs.size (He.fAd K d__law_plate.at_) cdv))) :
    SB (cxOf (L2.CX P w) P w K mg base ["spec", "cell", "xs", "spares", "bad", "k", "ring"] d__law_plate.qual d__law_plate.scope (He.fAd K d__law_plate.at_) cdv A outer s H E) (fun cls d _ H => E cls d H) (ioIx c__law_plate.io) d__law_plate.body c__law_plate.body := by
  have tk : Takes (cxOf (L2.CX P w) P w K mg base ["spec", "cell", "xs", "spares", "bad", "k", "ring"] d__law_plate.qual d__law_plate.scope (He.fAd K d__law_plate.at_) cdv A outer s H E) (fun cls d _ H => E cls d H) := takes_of rfl rfl rfl rfl
  exact sb_cons (ss_set (s := false) 2 (se_call ((ok__law_stream F).callee (k := 1) (k' := 4) (dfl := []) 0) (F.glo 2) (ok__law_stream (P := P) (w := w) (base := base) F).kp hr tk (sa_w (sa_ev (s := true) (sa := true) (sb := true) (se_use (s := true) 1) (sa_ev (s := true) (sa := true) (sb := true) (se_int (s := true)) (sa_nil))))) (hN := nd__law_plate)) (sb_cons (ss_if (s := true) (st_cmp (s := true) (sa := true) (sb := true) op_gt ok_gt (se_op (s := true) (sa := true) (sb := true) op_mod ok_mod (se_idx (s := true) (sa := true) (sb := true) (se_var (s := true) 2) (se_int (s := true))) (se_int (s := true))) (se_int (s := true))) (sb_one (ss_ret (s := false) (se_make .n_Plate 0 (F.mkr 13) ((ok_PlateUU_initUU F).callee (k := 2) (k' := 3) (dfl := []) 0) (F.glo 11) hr tk (sa_w (sa_ev (s := true) (sa := true) (sb := true) (se_t1 (s := true) (sa := true) call_list_of ok_list (se_idx (s := true) (sa := true) (sb := true) (se_var (s := true) 0) (se_int (s := true))) (F.free 9) bt_list) (sa_ev (s := true) (sa := true) (sb := true) (se_idx (s := true) (sa := true) (sb := true) (se_var (s := true) 0) (se_int (s := true))) (sa_ev (s := true) (sa := true) (sb := true) (se_idx (s := true) (sa := true) (sb := true) (se_var (s := true) 0) (se_int (s := true))) (sa_ev (s := true) (sa := true) (sb := true) (se_t1 (s := true) (sa := true) call_list_of ok_list (se_idx (s := true) (sa := true) (sb := true) (se_var (s := true) 0) (se_int (s := true))) (F.free 9) bt_list) (sa_nil))))))))) (sb_nil)) (sb_cons (ss_set (s := true) 3 (se_op (s := true) (sa := true) (sb := true) op_mod ok_mod (se_idx (s := true) (sa := true) (sb := true) (se_var (s := true) 2) (se_int (s := true))) (se_b1 (s := true) (sa := true) (cr_min rfl) ok_min (se_idx (s := true) (sa := true) (sb := true) (se_var (s := true) 0) (se_int (s := true))) (F.free 12) bt_min)) (hN := nd__law_plate)) (sb_cons (ss_set (s := true) 4 (se_dtN (s := true)) (hN := nd__law_plate)) (sb_cons (ss_for (s := true) (t := .nm 5) (passes_of rfl) rfl (si_range1 (s := true) (se_b2 (s := true) (sa := true) (sb := true) (call_min2 rfl) ok_min2 (se_op (s := true) (sa := true) (sb := true) op_mod ok_mod (se_idx (s := true) (sa := true) (sb := true) (se_var (s := true) 2) (se_int (s := true))) (se_int (s := true))) (se_op (s := true) (sa := true) (sb := true) op_mulA ok_mul (se_var (s := true) 3) (se_b1 (s := true) (sa := true) call_lenA ok_len (se_idx (s := true) (sa := true) (sb := true) (se_var (s := true) 0) (se_int (s := true))) (F.free 3) bt_len)) (F.free 12) bt_min) (F.free 0)) (pgT_nm 5 nd__law_plate) (sb_cons (ss_set (s := true) 6 (se_op (s := true) (sa := true) (sb := true) op_mod ok_mod (se_idx (s := true) (sa := true) (sb := true) (se_var (s := true) 2) (se_op (s := true) (sa := true) (sb := true) op_addA ok_add (se_int (s := true)) (se_var (s := true) 5))) (se_b1 (s := true) (sa := true) call_lenA ok_len (se_idx (s := true) (sa := true) (sb := true) (se_var (s := true) 0) (se_int (s := true))) (F.free 3) bt_len)) (hN := nd__law_plate)) (sb_one (ss_dput (s := true) (sk := true) (un1 hr.units) (se_bl (s := true)) (sl_var 4) (se_tup (s := true) (sa_ev (s := true) (sa := true) (sb := true) (se_use (s := true) 6) (sa_ev (s := true) (sa := true) (sb := true) (se_op (s := true) (sa := true) (sb := true) op_mod ok_mod (se_idx (s := true) (sa := true) (sb := true) (se_var (s := true) 2) (se_op (s := true) (sa := true) (sb := true) op_addA ok_add (se_int (s := true)) (se_var (s := true) 5))) (se_idx (s := true) (sa := true) (sb := true) (se_idx (s := true) (sa := true) (sb := true) (se_var (s := true) 0) (se_int (s := true))) (se_var (s := true) 6))) (sa_nil)))))))) (sb_one (ss_ret (s := false) (se_make .n_Mended 1 (F.mkr 14) ((ok_MendedUU_initUU F).callee (k := 3) (k' := 3) (dfl := []) 0) (F.glo 15) hr tk (sa_w (sa_ev (s := true) (sa := true) (sb := true) (se_t1 (s := true) (sa := true) call_list_of ok_list (se_idx (s := true) (sa := true) (sb := true) (se_var (s := true) 0) (se_int (s := true))) (F.free 9) bt_list) (sa_ev (s := true) (sa := true) (sb := true) (se_idx (s := true) (sa := true) (sb := true) (se_var (s := true) 0) (se_int (s := true))) (sa_ev (s := true) (sa := true) (sb := true) (se_idx (s := true) (sa := true) (sb := true) (se_var (s := true) 0) (se_int (s := true))) (sa_ev (s := true) (sa := true) (sb := true) (se_t1 (s := true) (sa := true) call_list_of ok_list (se_idx (s := true) (sa := true) (sb := true) (se_var (s := true) 0) (se_int (s := true))) (F.free 9) bt_list) (sa_ev (s := true) (sa := true) (sb := true) (se_use (s := true) 3) (sa_ev (s := true) (sa := true) (sb := true) (se_t1 (s := true) (sa := true) (call_list_dT rfl) ok_listT (se_var (s := true) 4) (F.free 9) bt_list) (sa_nil)))))))))))))))
theorem ok__law_plate (F : Fx fa ck fn K mg) : DefOk P w K mg base 5 (He.fAd K ("_law_plate", none)) 2 [] F__law_plate := by
  obtain ⟨fd, Fd⟩ := F.def_ 29 (d := d__law_plate) rfl
  exact def_law (fc := c__law_plate) Fd sc__law_plate rfl rfl rfl rfl (bd0 rfl rfl Fd fun _ _ _ _ _ _ us hl => match us, hl with | [_, _], _ => rfl) fun cdv A outer s H E hr => sb__law_plate F cdv A outer s H E hr
theorem nd__law_cell_at : (["script", "k"] : List Str).Nodup := by decide +kernel
theorem sc__law_cell_at : FnScope ["script", "k"] ["script", "k"] d__law_cell_at.scope := ⟨rfl, rfl, rfl, nd__law_cell_at, rfl, by decide +kernel, by decide +kernel⟩
theorem sb__law_cell_at (F : Fx fa ck fn K mg) (cdv : Value) (A : Around) (outer : List Env) (s : Shared) (H : Hp) (E : XK) (hr : Room 0 (A.deeper (envOfC d__law_cell_at.qual d__law_cell_at.scope s.heap.objs.size (He.fAd K d__law_cell_at.at_) cdv))) :
    SB (cxOf (L2.CX P w) P w K mg base ["script", "k"] d__law_cell_at.qual d__law_cell_at.scope (He.fAd K d__law_cell_at.at_) cdv A outer s H E) (fun cls d _ H => E cls d H) (ioIx c__law_cell_at.io) d__law_cell_at.body c__law_cell_at.body := by
  have tk : Takes (cxOf (L2.CX P w) P w K mg base ["script", "k"] d__law_cell_at.qual d__law_cell_at.scope (He.fAd K d__law_cell_at.at_) cdv A outer s H E) (fun cls d _ H => E cls d H) := takes_of rfl rfl rfl rfl
  exact sb_cons (ss_if (s := true) (st_cmp (s := true) (sa := true) (sb := true) op_lt ok_lt (se_var (s := true) 1) (se_b1 (s := true) (sa := true) call_lenA ok_len (se_var (s := true) 0) (F.free 3) bt_len)) (sb_one (ss_ret (s := true) (se_idx (s := true) (sa := true) (sb := true) (se_var (s := true) 0) (se_var (s := true) 1)))) (sb_nil)) (sb_one (ss_ret (s := true) (se_int (s := true))))
theorem ok__law_cell_at (F : Fx fa ck fn K mg) : DefOk P w K mg base 1 (He.fAd K ("_law_cell_at", none)) 2 [] F__law_cell_at := by
  obtain ⟨fd, Fd⟩ := F.def_ 25 (d := d__law_cell_at) rfl
  exact def_law (fc := c__law_cell_at) Fd sc__law_cell_at rfl rfl rfl rfl (bd0 rfl rfl Fd fun _ _ _ _ _ _ us hl => match us, hl with | [_, _], _ => rfl) fun cdv A outer s H E hr => sb__law_cell_at F cdv A outer s H E hr
theorem nd__law_walk : (["spec", "ring", "beat", "cells", "rows", "other", "place", "part", "free", "begun"] : List Str).Nodup := by decide +kernel
theorem sc__law_walk : FnScope ["spec", "ring", "beat", "cells", "rows", "other", "place", "part", "free", "begun"] ["spec", "ring", "beat", "cells"] d__law_walk.scope := ⟨rfl, rfl, rfl, nd__law_walk, rfl, by decide +kernel, by decide +kernel⟩
theorem sb__law_walk (F : Fx fa ck fn K mg) (cdv : Value) (A : Around) (outer : List Env) (s : Shared) (H : Hp) (E : XK) (hr : Room 0 (A.deeper (envOfC d__law_walk.qual d__law_walk.scope s.heap.objs.size (He.fAd K d__law_walk.at_) cdv))) :
    SB (cxOf (L2.CX P w) P w K mg base ["spec", "ring", "beat", "cells", "rows", "other", "place", "part", "free", "begun"] d__law_walk.qual d__law_walk.scope (He.fAd K d__law_walk.at_) cdv A outer s H E) (fun cls d _ H => E cls d H) (ioIx c__law_walk.io) d__law_walk.body c__law_walk.body := by
  have tk : Takes (cxOf (L2.CX P w) P w K mg base ["spec", "ring", "beat", "cells", "rows", "other", "place", "part", "free", "begun"] d__law_walk.qual d__law_walk.scope (He.fAd K d__law_walk.at_) cdv A outer s H E) (fun cls d _ H => E cls d H) := takes_of rfl rfl rfl rfl
  exact sb_cons (ss_set (s := true) 4 (se_lst (s := true) (sa_nil)) (hN := nd__law_walk)) (sb_cons (ss_for (s := true) (t := .tp [5, 6]) (passes_of rfl) rfl (si_any (s := true) (se_use (s := true) 3)) (pg_tup rfl (pgs_cons (pg_nm 5 nd__law_walk) (pgs_cons (pg_nm 6 nd__law_walk) (pgs_nil)))) (sb_cons (ss_set (s := true) 7 (se_op (s := true) (sa := true) (sb := true) op_fdiv ok_div (se_idx (s := true) (sa := true) (sb := true) (se_var (s := true) 0) (se_int (s := true))) (se_idx (s := true) (sa := true) (sb := true) (se_idx (s := true) (sa := true) (sb := true) (se_var (s := true) 0) (se_int (s := true))) (se_var (s := true) 5))) (hN := nd__law_walk)) (sb_cons (ss_set (s := true) 8 (se_op (s := true) (sa := true) (sb := true) op_addA ok_add (se_var (s := true) 2) (se_idx (s := true) (sa := true) (sb := true) (se_idx (s := true) (sa := true) (sb := true) (se_var (s := true) 0) (se_int (s := true))) (se_b1 (s := true) (sa := true) call_abs ok_abs (se_op (s := true) (sa := true) (sb := true) op_sub ok_sub (se_var (s := true) 1) (se_var (s := true) 5)) (F.free 16) bt_abs))) (hN := nd__law_walk)) (sb_cons (ss_set (s := true) 9 (se_op (s := true) (sa := true) (sb := true) op_addA ok_add (se_var (s := true) 8) (se_op (s := true) (sa := true) (sb := true) op_mod ok_mod (se_op (s := true) (sa := true) (sb := true) op_sub ok_sub (se_op (s := true) (sa := true) (sb := true) op_addA ok_add (se_op (s := true) (sa := true) (sb := true) op_mulA ok_mul (se_var (s := true) 6) (se_var (s := true) 7)) (se_op (s := true) (sa := true) (sb := true) op_mulA ok_mul (se_var (s := true) 5) (se_idx (s := true) (sa := true) (sb := true) (se_var (s := true) 0) (se_int (s := true))))) (se_var (s := true) 8)) (se_idx (s := true) (sa := true) (sb := true) (se_var (s := true) 0) (se_int (s := true))))) (hN := nd__law_walk)) (sb_cons (ss_set (s := true) 1 (se_use (s := true) 5) (hN := nd__law_walk)) (sb_cons (ss_set (s := true) 2 (se_op (s := true) (sa := true) (sb := true) op_addA ok_add (se_var (s := true) 9) (se_var (s := true) 7)) (hN := nd__law_walk)) (sb_one (ss_append (sy := true) (sl_var 4) (se_tup (s := true) (sa_ev (s := true) (sa := true) (sb := true) (se_use (s := true) 5) (sa_ev (s := true) (sa := true) (sb := true) (se_use (s := true) 6) (sa_ev (s := true) (sa := true) (sb := true) (se_use (s := true) 9) (sa_ev (s := true) (sa := true) (sb := true) (se_use (s := true) 2) (sa_nil)))))))))))))) (sb_one (ss_ret (s := true) (se_mv (s := true) 4))))
theorem ok__law_walk (F : Fx fa ck fn K mg) : DefOk P w K mg base 1 (He.fAd K ("_law_walk", none)) 4 [] F__law_walk := by
  obtain ⟨fd, Fd⟩ := F.def_ 30 (d := d__law_walk) rfl
  exact def_law (fc := c__law_walk) Fd sc__law_walk rfl rfl rfl rfl (bd0 rfl rfl Fd fun _ _ _ _ _ _ us hl => match us, hl with | [_, _, _, _], _ => rfl) fun cdv A outer s H E hr => sb__law_walk F cdv A outer s H E hr
theorem nd__law_behind_way : (["spec", "ring", "beat", "cells", "row"] : List Str).Nodup := by decide +kernel
theorem sc__law_behind_way : FnScope ["spec", "ring", "beat", "cells", "row"] ["spec", "ring", "beat", "cells"] d__law_behind_way.scope := ⟨rfl, rfl, rfl, nd__law_behind_way, rfl, by decide +kernel, by decide +kernel⟩
theorem sb__law_behind_way (F : Fx fa ck fn K mg) (cdv : Value) (A : Around) (outer : List Env) (s : Shared) (H : Hp) (E : XK) (hr : Room 1 (A.deeper (envOfC d__law_behind_way.qual d__law_behind_way.scope s.heap.objs.size (He.fAd K d__law_behind_way.at_) cdv))) :
    SB (cxOf (L2.CX P w) P w K mg base ["spec", "ring", "beat", "cells", "row"] d__law_behind_way.qual d__law_behind_way.scope (He.fAd K d__law_behind_way.at_) cdv A outer s H E) (fun cls d _ H => E cls d H) (ioIx c__law_behind_way.io) d__law_behind_way.body c__law_behind_way.body := by
  have tk : Takes (cxOf (L2.CX P w) P w K mg base ["spec", "ring", "beat", "cells", "row"] d__law_behind_way.qual d__law_behind_way.scope (He.fAd K d__law_behind_way.at_) cdv A outer s H E) (fun cls d _ H => E cls d H) := takes_of rfl rfl rfl rfl
  exact sb_cons (ss_for (s := false) (t := .nm 4) (passes_of rfl) rfl (si_any (s := false) (se_call ((ok__law_walk F).callee (k := 1) (k' := 1) (dfl := []) 0) (F.glo 17) (ok__law_walk (P := P) (w := w) (base := base) F).kp hr tk (sa_w (sa_ev (s := true) (sa := true) (sb := true) (se_use (s := true) 0) (sa_ev (s := true) (sa := true) (sb := true) (se_use (s := true) 1) (sa_ev (s := true) (sa := true) (sb := true) (se_use (s := true) 2) (sa_ev (s := true) (sa := true) (sb := true) (se_use (s := true) 3) (sa_nil)))))))) (pgT_nm 4 nd__law_behind_way) (sb_cons (ss_set (s := true) 1 (se_idx (s := true) (sa := true) (sb := true) (se_var (s := true) 4) (se_int (s := true))) (hN := nd__law_behind_way)) (sb_one (ss_set (s := true) 2 (se_idx (s := true) (sa := true) (sb := true) (se_var (s := true) 4) (se_int (s := true))) (hN := nd__law_behind_way))))) (sb_one (ss_ret (s := true) (se_tup (s := true) (sa_ev (s := true) (sa := true) (sb := true) (se_use (s := true) 1) (sa_ev (s := true) (sa := true) (sb := true) (se_use (s := true) 2) (sa_nil))))))
theorem ok__law_behind_way (F : Fx fa ck fn K mg) : DefOk P w K mg base 2 (He.fAd K ("_law_behind_way", none)) 4 [] F__law_behind_way := by
  obtain ⟨fd, Fd⟩ := F.def_ 31 (d := d__law_behind_way) rfl
  exact def_law (fc := c__law_behind_way) Fd sc__law_behind_way rfl rfl rfl rfl (bd0 rfl rfl Fd fun _ _ _ _ _ _ us hl => match us, hl with | [_, _, _, _], _ => rfl) fun cdv A outer s H E hr => sb__law_behind_way F cdv A outer s H E hr
theorem nd_Plate_number_of : (["self", "ring", "place"] : List Str).Nodup := by decide +kernel
theorem sc_Plate_number_of : FnScope ["self", "ring", "place"] ["self", "ring", "place"] d_Plate_number_of.scope := ⟨rfl, rfl, rfl, nd_Plate_number_of, rfl, by decide +kernel, by decide +kernel⟩
theorem sb_Plate_number_of (F : Fx fa ck fn K mg) (cdv : Value) (A : Around) (outer : List Env) (s : Shared) (H : Hp) (E : XK) (hr : Room 1 (A.deeper (envOfC d_Plate_number_of.qual d_Plate_number_of.scope s.heap.objs.size (He.fAd K d_Plate_number_of.at_) cdv))) :
    SB (cxOf (L2.CX P w) P w K mg base ["self", "ring", "place"] d_Plate_number_of.qual d_Plate_number_of.scope (He.fAd K d_Plate_number_of.at_) cdv A outer s H E) (fun cls d _ H => E cls d H) (ioIx c_Plate_number_of.io) d_Plate_number_of.body c_Plate_number_of.body := by
  have tk : Takes (cxOf (L2.CX P w) P w K mg base ["self", "ring", "place"] d_Plate_number_of.qual d_Plate_number_of.scope (He.fAd K d_Plate_number_of.at_) cdv A outer s H E) (fun cls d _ H => E cls d H) := takes_of rfl rfl rfl rfl
  exact sb_one (ss_ret (s := false) (se_meth .n_plain_number (nm_inj .n_plain_number) (.io (pv 0 rfl (vis_ok (by rfl)))) (M_plain_number_3 F (k' := 1)) hr tk (sa_w (sa_ev (s := true) (sa := true) (sb := true) (se_use (s := true) 1) (sa_ev (s := true) (sa := true) (sb := true) (se_use (s := true) 2) (sa_nil))))))
theorem ok_Plate_number_of (F : Fx fa ck fn K mg) : DefOk P w K mg base 2 (He.fAd K ("Plate", some "number_of")) 3 [] F_Plate_number_of := by
  obtain ⟨fd, Fd⟩ := F.def_ 19 (d := d_Plate_number_of) rfl
  exact def_law (fc := c_Plate_number_of) Fd sc_Plate_number_of rfl rfl rfl rfl (bd0 rfl rfl Fd fun _ _ _ _ _ _ us hl => match us, hl with | [_, _, _], _ => rfl) fun cdv A outer s H E hr => sb_Plate_number_of F cdv A outer s H E hr
theorem nd_Mended_number_of : (["self", "ring", "place", "number"] : List Str).Nodup := by decide +kernel
theorem sc_Mended_number_of : FnScope ["self", "ring", "place", "number"] ["self", "ring", "place"] d_Mended_number_of.scope := ⟨rfl, rfl, rfl, nd_Mended_number_of, rfl, by decide +kernel, by decide +kernel⟩
theorem sb_Mended_number_of (F : Fx fa ck fn K mg) (cdv : Value) (A : Around) (outer : List Env) (s : Shared) (H : Hp) (E : XK) (hr : Room 1 (A.deeper (envOfC d_Mended_number_of.qual d_Mended_number_of.scope s.heap.objs.size (He.fAd K d_Mended_number_of.at_) cdv))) :
    SB (cxOf (L2.CX P w) P w K mg base ["self", "ring", "place", "number"] d_Mended_number_of.qual d_Mended_number_of.scope (He.fAd K d_Mended_number_of.at_) cdv A outer s H E) (fun cls d _ H => E cls d H) (ioIx c_Mended_number_of.io) d_Mended_number_of.body c_Mended_number_of.body := by
  have tk : Takes (cxOf (L2.CX P w) P w K mg base ["self", "ring", "place", "number"] d_Mended_number_of.qual d_Mended_number_of.scope (He.fAd K d_Mended_number_of.at_) cdv A outer s H E) (fun cls d _ H => E cls d H) := takes_of rfl rfl rfl rfl
  exact sb_cons (ss_set (s := false) 3 (se_meth .n_plain_number (nm_inj .n_plain_number) (.io (pv 0 rfl (vis_ok (by rfl)))) (M_plain_number_3 F (k' := 1)) hr tk (sa_w (sa_ev (s := true) (sa := true) (sb := true) (se_use (s := true) 1) (sa_ev (s := true) (sa := true) (sb := true) (se_use (s := true) 2) (sa_nil))))) (hN := nd_Mended_number_of)) (sb_cons (ss_if (s := true) (st_din (s := true) (sa := true) (sb := true) (un1 hr.units) (se_tup (s := true) (sa_ev (s := true) (sa := true) (sb := true) (se_use (s := true) 1) (sa_ev (s := true) (sa := true) (sb := true) (se_use (s := true) 2) (sa_nil)))) (se_fld (s := true) (FO F) .n_bad (se_var (s := true) 0))) (sb_one (ss_ret (s := true) (se_non (s := true)))) (sb_nil)) (sb_cons (ss_if (s := true) (st_cmp (s := true) (sa := true) (sb := true) op_isN ok_isN (se_var (s := true) 3) (se_non (s := true))) (sb_one (ss_ret (s := true) (se_get1 (s := true) (sa := true) (un1 hr.units) (se_fld (s := true) (FO F) .n_lies (se_var (s := true) 0)) (se_tup (s := true) (sa_ev (s := true) (sa := true) (sb := true) (se_use (s := true) 1) (sa_ev (s := true) (sa := true) (sb := true) (se_use (s := true) 2) (sa_nil)))) ⟨rfl, rfl, rfl, rfl⟩))) (sb_nil)) (sb_one (ss_ret (s := true) (se_mv (s := true) 3)))))
theorem ok_Mended_number_of (F : Fx fa ck fn K mg) : DefOk P w K mg base 2 (He.fAd K ("Mended", some "number_of")) 3 [] F_Mended_number_of := by
  obtain ⟨fd, Fd⟩ := F.def_ 24 (d := d_Mended_number_of) rfl
  exact def_law (fc := c_Mended_number_of) Fd sc_Mended_number_of rfl rfl rfl rfl (bd0 rfl rfl Fd fun _ _ _ _ _ _ us hl => match us, hl with | [_, _, _], _ => rfl) fun cdv A outer s H E hr => sb_Mended_number_of F cdv A outer s H E hr
theorem M_number_of_3 {X : Cx} (F : Fx fa ck fn X.K X.mg) {k' : Nat} (hk : 2 ≤ k' := by decide) : ∀ C np cl dfl, mt_number_of_3 C = some (np, cl, dfl) → MOk X k' (ca X.K C) (Nm.str .n_number_of) np cl dfl := mt_ok (List.forall_mem_cons.mpr ⟨mok (F.cls 61) (F.meth 83) rfl ((ok_Plate_number_of F).callee (k := 2) (k' := k') (dfl := []) 0 (by decide) (Nat.le_trans (by decide) hk)), List.forall_mem_cons.mpr ⟨mok (F.cls 67) (F.meth 82) rfl ((ok_Mended_number_of F).callee (k := 2) (k' := k') (dfl := []) 0 (by decide) (Nat.le_trans (by decide) hk)), List.forall_mem_nil _⟩⟩)
theorem nd__law_beside : (["plate", "spec", "spot", "cell", "places", "at", "known", "k", "first"] : List Str).Nodup := by decide +kernel
theorem sc__law_beside : FnScope ["plate", "spec", "spot", "cell", "places", "at", "known", "k", "first"] ["plate", "spec", "spot", "cell"] d__law_beside.scope := ⟨rfl, rfl, rfl, nd__law_beside, rfl, by decide +kernel, by decide +kernel⟩
theorem sb__law_beside (F : Fx fa ck fn K mg) (cdv : Value) (A : Around) (outer : List Env) (s : Shared) (H : Hp) (E : XK) (hr : Room 2 (A.deeper (envOfC d__law_beside.qual d__law_beside.scope s.heap.objs.size (He.fAd K d__law_beside.at_) cdv))) :
    SB (cxOf (L2.CX P w) P w K mg base ["plate", "spec", "spot", "cell", "places", "at", "known", "k", "first"] d__law_beside.qual d__law_beside.scope (He.fAd K d__law_beside.at_) cdv A outer s H E) (fun cls d _ H => E cls d H) (ioIx c__law_beside.io) d__law_beside.body c__law_beside.body := by
  have tk : Takes (cxOf (L2.CX P w) P w K mg base ["plate", "spec", "spot", "cell", "places", "at", "known", "k", "first"] d__law_beside.qual d__law_beside.scope (He.fAd K d__law_beside.at_) cdv A outer s H E) (fun cls d _ H => E cls d H) := takes_of rfl rfl rfl rfl
  exact sb_cons (ss_set (s := false) 4 (se_slc (s := false) (sa := false) (se_lc (s := false) (sa := true) (sb := false) (sc := true) (own := [("k", 7)]) rfl nd__law_beside (si_range1 (s := true) (se_idx (s := true) (sa := true) (sb := true) (se_idx (s := true) (sa := true) (sb := true) (se_var (s := true) 1) (se_int (s := true))) (se_idx (s := true) (sa := true) (sb := true) (se_var (s := true) 2) (se_int (s := true)))) (F.free 0)) (blk_ok (by kernel_rfl)) (fun _ _ _ _ _ => pgT_nm 7 nd__law_beside) (fun _ _ _ _ _ => pts_one (st_cmp (s := false) (sa := false) (sb := true) op_notN ok_notN (se_meth .n_number_of (nm_inj .n_number_of) (.io (pv 0 rfl (vis_ok (by rfl)))) (M_number_of_3 F (k' := 2)) hr takes0 (sa_w (sa_ev (s := true) (sa := true) (sb := true) (se_idx (s := true) (sa := true) (sb := true) (se_var (s := true) 2) (se_int (s := true))) (sa_ev (s := true) (sa := true) (sb := true) (se_use (s := true) 7) (sa_nil))))) (se_non (s := true)))) (fun _ _ _ _ _ => se_use (s := true) 7)) so_none (so_some (se_int (s := true)))) (hN := nd__law_beside)) (sb_cons (ss_set (s := true) 5 (se_op (s := true) (sa := true) (sb := true) op_mod ok_mod (se_var (s := true) 3) (se_op (s := true) (sa := true) (sb := true) op_addA ok_add (se_b1 (s := true) (sa := true) call_lenA ok_len (se_var (s := true) 4) (F.free 3) bt_len) (se_int (s := true)))) (hN := nd__law_beside)) (sb_cons (ss_set (s := true) 4 (se_op (s := true) (sa := true) (sb := true) op_addA ok_add (se_slc (s := true) (sa := true) (se_var (s := true) 4) (so_some (se_var (s := true) 5)) so_none) (se_slc (s := true) (sa := true) (se_var (s := true) 4) so_none (so_some (se_var (s := true) 5)))) (hN := nd__law_beside)) (sb_cons (ss_if (s := true) (st_cmp (s := true) (sa := true) (sb := true) (op_eqD hr.units) ok_eqD (se_op (s := true) (sa := true) (sb := true) op_mod ok_mod (se_op (s := true) (sa := true) (sb := true) op_fdiv ok_div (se_var (s := true) 3) (se_int (s := true))) (se_int (s := true))) (se_int (s := true))) (sb_one (ss_set (s := true) 4 (se_rev (s := true) (sa := true) (se_var (s := true) 4)) (hN := nd__law_beside))) (sb_nil)) (sb_cons (ss_set (s := true) 6 (se_lst (s := true) (sa_nil)) (hN := nd__law_beside)) (sb_cons (ss_for (s := true) (t := .nm 7) (passes_of rfl) rfl (si_range1 (s := true) (se_b1 (s := true) (sa := true) call_lenA ok_len (se_var (s := true) 4) (F.free 3) bt_len) (F.free 0)) (pgT_nm 7 nd__law_beside) (sb_cons (ss_set (s := false) 8 (se_meth .n_number_of (nm_inj .n_number_of) (.io (pv 0 rfl (vis_ok (by rfl)))) (M_number_of_3 F (k' := 2)) hr tk (sa_w (sa_ev (s := true) (sa := true) (sb := true) (se_idx (s := true) (sa := true) (sb := true) (se_var (s := true) 2) (se_int (s := true))) (sa_ev (s := true) (sa := true) (sb := true) (se_idx (s := true) (sa := true) (sb := true) (se_var (s := true) 4) (se_var (s := true) 7)) (sa_nil))))) (hN := nd__law_beside)) (sb_one (ss_append (sy := true) (sl_var 6) (se_tup (s := true) (sa_ev (s := true) (sa := true) (sb := true) (se_op (s := true) (sa := true) (sb := true) op_addA ok_add (se_op (s := true) (sa := true) (sb := true) op_mulA ok_mul (se_int (s := true)) (se_var (s := true) 7)) (se_op (s := true) (sa := true) (sb := true) op_mod ok_mod (se_op (s := true) (sa := true) (sb := true) op_fdiv ok_div (se_var (s := true) 3) (se_int (s := true))) (se_int (s := true)))) (sa_ev (s := true) (sa := true) (sb := true) (se_use (s := true) 8) (sa_ev (s := true) (sa := true) (sb := true) (se_int (s := true)) (sa_ev (s := true) (sa := true) (sb := true) (se_bl (s := true)) (sa_ev (s := true) (sa := true) (sb := true) (se_tup (s := true) (sa_nil)) (sa_ev (s := true) (sa := true) (sb := true) (se_non (s := true)) (sa_ev (s := true) (sa := true) (sb := true) (se_lst (s := true) (sa_ev (s := true) (sa := true) (sb := true) (se_tup (s := true) (sa_ev (s := true) (sa := true) (sb := true) (se_idx (s := true) (sa := true) (sb := true) (se_var (s := true) 2) (se_int (s := true))) (sa_ev (s := true) (sa := true) (sb := true) (se_idx (s := true) (sa := true) (sb := true) (se_var (s := true) 4) (se_var (s := true) 7)) (sa_nil)))) (sa_nil))) (sa_nil))))))))))))) (sb_one (ss_ret (s := true) (se_mv (s := true) 6))))))))
theorem ok__law_beside (F : Fx fa ck fn K mg) : DefOk P w K mg base 3 (He.fAd K ("_law_beside", none)) 4 [] F__law_beside := by
  obtain ⟨fd, Fd⟩ := F.def_ 32 (d := d__law_beside) rfl
  exact def_law (fc := c__law_beside) Fd sc__law_beside rfl rfl rfl rfl (bd0 rfl rfl Fd fun _ _ _ _ _ _ us hl => match us, hl with | [_, _, _, _], _ => rfl) fun cdv A outer s H E hr => sb__law_beside F cdv A outer s H E hr
theorem nd__law_tight : (["spec", "spot", "known", "one", "found", "k"] : List Str).Nodup := by decide +kernel
theorem sc__law_tight : FnScope ["spec", "spot", "known", "one", "found", "k"] ["spec", "spot", "known"] d__law_tight.scope := ⟨rfl, rfl, rfl, nd__law_tight, rfl, by decide +kernel, by decide +kernel⟩
theorem sb__law_tight (F : Fx fa ck fn K mg) (cdv : Value) (A : Around) (outer : List Env) (s : Shared) (H : Hp) (E : XK) (hr : Room 2 (A.deeper (envOfC d__law_tight.qual d__law_tight.scope s.heap.objs.size (He.fAd K d__law_tight.at_) cdv))) :
    SB (cxOf (L2.CX P w) P w K mg base ["spec", "spot", "known", "one", "found", "k"] d__law_tight.qual d__law_tight.scope (He.fAd K d__law_tight.at_) cdv A outer s H E) (fun cls d _ H => E cls d H) (ioIx c__law_tight.io) d__law_tight.body c__law_tight.body := by
  have tk : Takes (cxOf (L2.CX P w) P w K mg base ["spec", "spot", "known", "one", "found", "k"] d__law_tight.qual d__law_tight.scope (He.fAd K d__law_tight.at_) cdv A outer s H E) (fun cls d _ H => E cls d H) := takes_of rfl rfl rfl rfl
  exact sb_cons (ss_for (s := true) (t := .nm 3) (passes_of rfl) rfl (si_any (s := true) (se_use (s := true) 2)) (pgT_nm 3 nd__law_tight) (sb_one (ss_set (s := false) 1 (se_call ((ok__law_behind_way F).callee (k := 2) (k' := 2) (dfl := []) 0) (F.glo 18) (ok__law_behind_way (P := P) (w := w) (base := base) F).kp hr tk (sa_w (sa_ev (s := true) (sa := true) (sb := true) (se_use (s := true) 0) (sa_ev (s := true) (sa := true) (sb := true) (se_idx (s := true) (sa := true) (sb := true) (se_var (s := true) 1) (se_int (s := true))) (sa_ev (s := true) (sa := true) (sb := true) (se_idx (s := true) (sa := true) (sb := true) (se_var (s := true) 1) (se_int (s := true))) (sa_ev (s := true) (sa := true) (sb := true) (se_idx (s := true) (sa := true) (sb := true) (se_var (s := true) 3) (se_int (s := true))) (sa_nil))))))) (hN := nd__law_tight)))) (sb_cons (ss_set (s := true) 4 (se_lst (s := true) (sa_nil)) (hN := nd__law_tight)) (sb_cons (ss_for (s := true) (t := .nm 5) (passes_of rfl) rfl (si_range1 (s := true) (se_b1 (s := true) (sa := true) call_lenA ok_len (se_var (s := true) 2) (F.free 3) bt_len) (F.free 0)) (pgT_nm 5 nd__law_tight) (sb_one (ss_append (sy := true) (sl_var 4) (se_op (s := true) (sa := true) (sb := true) op_addA ok_add (se_op (s := true) (sa := true) (sb := true) op_addA ok_add (se_slc (s := true) (sa := true) (se_idx (s := true) (sa := true) (sb := true) (se_var (s := true) 2) (se_var (s := true) 5)) so_none (so_some (se_int (s := true)))) (se_tup (s := true) (sa_ev (s := true) (sa := true) (sb := true) (se_op (s := true) (sa := true) (sb := true) op_sub ok_sub (se_op (s := true) (sa := true) (sb := true) op_sub ok_sub (se_op (s := true) (sa := true) (sb := true) op_addA ok_add (se_idx (s := true) (sa := true) (sb := true) (se_var (s := true) 1) (se_int (s := true))) (se_b1 (s := true) (sa := true) call_lenA ok_len (se_var (s := true) 2) (F.free 3) bt_len)) (se_int (s := true))) (se_var (s := true) 5)) (sa_nil)))) (se_slc (s := true) (sa := true) (se_idx (s := true) (sa := true) (sb := true) (se_var (s := true) 2) (se_var (s := true) 5)) (so_some (se_int (s := true))) so_none))))) (sb_one (ss_ret (s := true) (se_mv (s := true) 4)))))
theorem ok__law_tight (F : Fx fa ck fn K mg) : DefOk P w K mg base 3 (He.fAd K ("_law_tight", none)) 3 [] F__law_tight := by
  obtain ⟨fd, Fd⟩ := F.def_ 33 (d := d__law_tight) rfl
  exact def_law (fc := c__law_tight) Fd sc__law_tight rfl rfl rfl rfl (bd0 rfl rfl Fd fun _ _ _ _ _ _ us hl => match us, hl with | [_, _, _], _ => rfl) fun cdv A outer s H E hr => sb__law_tight F cdv A outer s H E hr
theorem nd_Plate_cell_at : (["self", "number"] : List Str).Nodup := by decide +kernel
theorem sc_Plate_cell_at : FnScope ["self", "number"] ["self", "number"] d_Plate_cell_at.scope := ⟨rfl, rfl, rfl, nd_Plate_cell_at, rfl, by decide +kernel, by decide +kernel⟩
theorem sb_Plate_cell_at (F : Fx fa ck fn K mg) (cdv : Value) (A : Around) (outer : List Env) (s : Shared) (H : Hp) (E : XK) (hr : Room 1 (A.deeper (envOfC d_Plate_cell_at.qual d_Plate_cell_at.scope s.heap.objs.size (He.fAd K d_Plate_cell_at.at_) cdv))) :
    SB (cxOf (L2.CX P w) P w K mg base ["self", "number"] d_Plate_cell_at.qual d_Plate_cell_at.scope (He.fAd K d_Plate_cell_at.at_) cdv A outer s H E) (fun cls d _ H => E cls d H) (ioIx c_Plate_cell_at.io) d_Plate_cell_at.body c_Plate_cell_at.body := by
  have tk : Takes (cxOf (L2.CX P w) P w K mg base ["self", "number"] d_Plate_cell_at.qual d_Plate_cell_at.scope (He.fAd K d_Plate_cell_at.at_) cdv A outer s H E) (fun cls d _ H => E cls d H) := takes_of rfl rfl rfl rfl
  exact sb_one (ss_ret (s := false) (se_meth .n_plain_cell (nm_inj .n_plain_cell) (.io (pv 0 rfl (vis_ok (by rfl)))) (M_plain_cell_2 F (k' := 1)) hr tk (sa_w (sa_ev (s := true) (sa := true) (sb := true) (se_use (s := true) 1) (sa_nil)))))
theorem ok_Plate_cell_at (F : Fx fa ck fn K mg) : DefOk P w K mg base 2 (He.fAd K ("Plate", some "cell_at")) 2 [] F_Plate_cell_at := by
  obtain ⟨fd, Fd⟩ := F.def_ 18 (d := d_Plate_cell_at) rfl
  exact def_law (fc := c_Plate_cell_at) Fd sc_Plate_cell_at rfl rfl rfl rfl (bd0 rfl rfl Fd fun _ _ _ _ _ _ us hl => match us, hl with | [_, _], _ => rfl) fun cdv A outer s H E hr => sb_Plate_cell_at F cdv A outer s H E hr
theorem nd_Mended_cell_at : (["self", "number"] : List Str).Nodup := by decide +kernel
theorem sc_Mended_cell_at : FnScope ["self", "number"] ["self", "number"] d_Mended_cell_at.scope := ⟨rfl, rfl, rfl, nd_Mended_cell_at, rfl, by decide +kernel, by decide +kernel⟩
theorem sb_Mended_cell_at (F : Fx fa ck fn K mg) (cdv : Value) (A : Around) (outer : List Env) (s : Shared) (H : Hp) (E : XK) (hr : Room 1 (A.deeper (envOfC d_Mended_cell_at.qual d_Mended_cell_at.scope s.heap.objs.size (He.fAd K d_Mended_cell_at.at_) cdv))) :
    SB (cxOf (L2.CX P w) P w K mg base ["self", "number"] d_Mended_cell_at.qual d_Mended_cell_at.scope (He.fAd K d_Mended_cell_at.at_) cdv A outer s H E) (fun cls d _ H => E cls d H) (ioIx c_Mended_cell_at.io) d_Mended_cell_at.body c_Mended_cell_at.body := by
  have tk : Takes (cxOf (L2.CX P w) P w K mg base ["self", "number"] d_Mended_cell_at.qual d_Mended_cell_at.scope (He.fAd K d_Mended_cell_at.at_) cdv A outer s H E) (fun cls d _ H => E cls d H) := takes_of rfl rfl rfl rfl
  exact sb_cons (ss_if (s := true) (st_din (s := true) (sa := true) (sb := true) (un1 hr.units) (se_var (s := true) 1) (se_fld (s := true) (FO F) .n_moved (se_var (s := true) 0))) (sb_one (ss_ret (s := true) (se_dget (s := true) (sa := true) (sb := true) (un1 hr.units) (se_fld (s := true) (FO F) .n_moved (se_var (s := true) 0)) (se_var (s := true) 1)))) (sb_nil)) (sb_one (ss_ret (s := false) (se_meth .n_plain_cell (nm_inj .n_plain_cell) (.io (pv 0 rfl (vis_ok (by rfl)))) (M_plain_cell_2 F (k' := 1)) hr tk (sa_w (sa_ev (s := true) (sa := true) (sb := true) (se_use (s := true) 1) (sa_nil))))))
theorem ok_Mended_cell_at (F : Fx fa ck fn K mg) : DefOk P w K mg base 2 (He.fAd K ("Mended", some "cell_at")) 2 [] F_Mended_cell_at := by
  obtain ⟨fd, Fd⟩ := F.def_ 23 (d := d_Mended_cell_at) rfl
  exact def_law (fc := c_Mended_cell_at) Fd sc_Mended_cell_at rfl rfl rfl rfl (bd0 rfl rfl Fd fun _ _ _ _ _ _ us hl => match us, hl with | [_, _], _ => rfl) fun cdv A outer s H E hr => sb_Mended_cell_at F cdv A outer s H E hr
theorem nd_Plate_total : (["self"] : List Str).Nodup := by decide +kernel
theorem sc_Plate_total : FnScope ["self"] ["self"] d_Plate_total.scope := ⟨rfl, rfl, rfl, nd_Plate_total, rfl, by decide +kernel, by decide +kernel⟩
theorem sb_Plate_total (F : Fx fa ck fn K mg) (cdv : Value) (A : Around) (outer : List Env) (s : Shared) (H : Hp) (E : XK) (hr : Room 0 (A.deeper (envOfC d_Plate_total.qual d_Plate_total.scope s.heap.objs.size (He.fAd K d_Plate_total.at_) cdv))) :
    SB (cxOf (L2.CX P w) P w K mg base ["self"] d_Plate_total.qual d_Plate_total.scope (He.fAd K d_Plate_total.at_) cdv A outer s H E) (fun cls d _ H => E cls d H) (ioIx c_Plate_total.io) d_Plate_total.body c_Plate_total.body := by
  have tk : Takes (cxOf (L2.CX P w) P w K mg base ["self"] d_Plate_total.qual d_Plate_total.scope (He.fAd K d_Plate_total.at_) cdv A outer s H E) (fun cls d _ H => E cls d H) := takes_of rfl rfl rfl rfl
  exact sb_one (ss_ret (s := true) (se_op (s := true) (sa := true) (sb := true) op_sub ok_sub (se_b1 (s := true) (sa := true) (cr_sum rfl) ok_sum (se_fld (s := true) (FO F) .n_counts (se_var (s := true) 0)) (F.free 10) bt_sum) (se_op (s := true) (sa := true) (sb := true) op_mulA ok_mul (se_fld (s := true) (FO F) .n_spare (se_var (s := true) 0)) (se_b1 (s := true) (sa := true) call_lenA ok_len (se_fld (s := true) (FO F) .n_counts (se_var (s := true) 0)) (F.free 3) bt_len))))
theorem ok_Plate_total (F : Fx fa ck fn K mg) : DefOk P w K mg base 1 (He.fAd K ("Plate", some "total")) 1 [] F_Plate_total := by
  obtain ⟨fd, Fd⟩ := F.def_ 15 (d := d_Plate_total) rfl
  exact def_law (fc := c_Plate_total) Fd sc_Plate_total rfl rfl rfl rfl (bd0 rfl rfl Fd fun _ _ _ _ _ _ us hl => match us, hl with | [_], _ => rfl) fun cdv A outer s H E hr => sb_Plate_total F cdv A outer s H E hr
theorem M_total_1 {X : Cx} (F : Fx fa ck fn X.K X.mg) {k' : Nat} (hk : 1 ≤ k' := by decide) : ∀ C np cl dfl, mt_total_1 C = some (np, cl, dfl) → MOk X k' (ca X.K C) (Nm.str .n_total) np cl dfl := mt_ok (List.forall_mem_cons.mpr ⟨mok (F.cls 61) (F.meth 85) rfl ((ok_Plate_total F).callee (k := 1) (k' := k') (dfl := []) 0 (by decide) (Nat.le_trans (by decide) hk)), List.forall_mem_cons.mpr ⟨mok (F.cls 67) (F.meth 84) (F.al 3) ((ok_Plate_total F).callee (k := 1) (k' := k') (dfl := []) 0 (by decide) (Nat.le_trans (by decide) hk)), List.forall_mem_nil _⟩⟩)
theorem M_cell_at_2 {X : Cx} (F : Fx fa ck fn X.K X.mg) {k' : Nat} (hk : 2 ≤ k' := by decide) : ∀ C np cl dfl, mt_cell_at_2 C = some (np, cl, dfl) → MOk X k' (ca X.K C) (Nm.str .n_cell_at) np cl dfl := mt_ok (List.forall_mem_cons.mpr ⟨mok (F.cls 61) (F.meth 87) rfl ((ok_Plate_cell_at F).callee (k := 2) (k' := k') (dfl := []) 0 (by decide) (Nat.le_trans (by decide) hk)), List.forall_mem_cons.mpr ⟨mok (F.cls 67) (F.meth 86) rfl ((ok_Mended_cell_at F).callee (k := 2) (k' := k') (dfl := []) 0 (by decide) (Nat.le_trans (by decide) hk)), List.forall_mem_nil _⟩⟩)
theorem nd__law_known : (["script", "plate", "spec", "spot", "most", "cell", "chains", "many", "far", "known", "number", "there", "k", "xs", "first", "size", "cells", "latest", "behind", "j"] : List Str).Nodup := by decide +kernel
theorem sc__law_known : FnScope ["script", "plate", "spec", "spot", "most", "cell", "chains", "many", "far", "known", "number", "there", "k", "xs", "first", "size", "cells", "latest", "behind", "j"] ["script", "plate", "spec", "spot", "most"] d__law_known.scope := ⟨rfl, rfl, rfl, nd__law_known, rfl, by decide +kernel, by decide +kernel⟩
theorem sb__law_known (F : Fx fa ck fn K mg) (cdv : Value) (A : Around) (outer : List Env) (s : Shared) (H : Hp) (E : XK) (hr : Room 3 (A.deeper (envOfC d__law_known.qual d__law_known.scope s.heap.objs.size (He.fAd K d__law_known.at_) cdv))) :
    SB (cxOf (L2.CX P w) P w K mg base ["script", "plate", "spec", "spot", "most", "cell", "chains", "many", "far", "known", "number", "there", "k", "xs", "first", "size", "cells", "latest", "behind", "j"] d__law_known.qual d__law_known.scope (He.fAd K d__law_known.at_) cdv A outer s H E) (fun cls d _ H => E cls d H) (ioIx c__law_known.io) d__law_known.body c__law_known.body := by
  have tk : Takes (cxOf (L2.CX P w) P w K mg base ["script", "plate", "spec", "spot", "most", "cell", "chains", "many", "far", "known", "number", "there", "k", "xs", "first", "size", "cells", "latest", "behind", "j"] d__law_known.qual d__law_known.scope (He.fAd K d__law_known.at_) cdv A outer s H E) (fun cls d _ H => E cls d H) := takes_of rfl rfl rfl rfl
  exact sb_cons (ss_set (s := false) 5 (se_call ((ok__law_cell_at F).callee (k := 1) (k' := 3) (dfl := []) 0) (F.glo 19) (ok__law_cell_at (P := P) (w := w) (base := base) F).kp hr tk (sa_w (sa_ev (s := true) (sa := true) (sb := true) (se_use (s := true) 0) (sa_ev (s := true) (sa := true) (sb := true) (se_int (s := true)) (sa_nil))))) (hN := nd__law_known)) (sb_cons (ss_set (s := true) 6 (se_cmp (s := true) (sa := true) (sb := true) (op_eqD hr.units) ok_eqD (se_op (s := true) (sa := true) (sb := true) op_mod ok_mod (se_op (s := true) (sa := true) (sb := true) op_fdiv ok_div (se_var (s := true) 5) (se_int (s := true))) (se_int (s := true))) (se_int (s := true))) (hN := nd__law_known)) (sb_cons (ss_set (s := true) 7 (se_idx (s := true) (sa := true) (sb := true) (se_lst (s := true) (sa_ev (s := true) (sa := true) (sb := true) (se_op (s := true) (sa := true) (sb := true) op_mod ok_mod (se_var (s := true) 5) (se_var (s := true) 4)) (sa_ev (s := true) (sa := true) (sb := true) (se_use (s := true) 4) (sa_nil)))) (se_t1 (s := true) (sa := true) call_int1 ok_int (se_cmp (s := true) (sa := true) (sb := true) (op_eqD hr.units) ok_eqD (se_op (s := true) (sa := true) (sb := true) op_mod ok_mod (se_op (s := true) (sa := true) (sb := true) op_fdiv ok_div (se_var (s := true) 5) (se_var (s := true) 4)) (se_int (s := true))) (se_int (s := true))) (F.free 20) bt_int)) (hN := nd__law_known)) (sb_cons (ss_if (s := true) (st_val (s := true) (se_var (s := true) 6)) (sb_one (ss_set (s := true) 7 (se_op (s := true) (sa := true) (sb := true) op_addA ok_add (se_int (s := true)) (se_op (s := true) (sa := true) (sb := true) op_mod ok_mod (se_op (s := true) (sa := true) (sb := true) op_fdiv ok_div (se_var (s := true) 5) (se_int (s := true))) (se_int (s := true)))) (hN := nd__law_known))) (sb_nil)) (sb_cons (ss_set (s := true) 8 (se_op (s := true) (sa := true) (sb := true) op_addA ok_add (se_idx (s := true) (sa := true) (sb := true) (se_var (s := true) 2) (se_int (s := true))) (se_idx (s := true) (sa := true) (sb := true) (se_idx (s := true) (sa := true) (sb := true) (se_var (s := true) 2) (se_int (s := true))) (se_neg (s := true) (sa := true) (se_int (s := true))))) (hN := nd__law_known)) (sb_cons (ss_set (s := true) 9 (se_lst (s := true) (sa_nil)) (hN := nd__law_known)) (sb_cons (ss_set (s := true) 10 (se_neg (s := true) (sa := true) (se_int (s := true))) (hN := nd__law_known)) (sb_cons (ss_set (s := true) 11 (se_use (s := true) 3) (hN := nd__law_known)) (sb_cons (ss_for (s := true) (t := .nm 12) (passes_of rfl) rfl (si_range1 (s := true) (se_var (s := true) 7) (F.free 0)) (pgT_nm 12 nd__law_known) (sb_cons (ss_set (s := false) 13 (se_call ((ok__law_stream F).callee (k := 1) (k' := 3) (dfl := []) 0) (F.glo 2) (ok__law_stream (P := P) (w := w) (base := base) F).kp hr tk (sa_ev (s := false) (sa := false) (sb := true) (se_op (s := false) (sa := false) (sb := true) op_addA ok_add (se_call ((ok__law_cell_at F).callee (k := 1) (k' := 3) (dfl := []) 0) (F.glo 19) (ok__law_cell_at (P := P) (w := w) (base := base) F).kp hr tk (sa_w (sa_ev (s := true) (sa := true) (sb := true) (se_use (s := true) 0) (sa_ev (s := true) (sa := true) (sb := true) (se_op (s := true) (sa := true) (sb := true) op_addA ok_add (se_int (s := true)) (se_var (s := true) 12)) (sa_nil))))) (se_var (s := true) 12)) (sa_ev (s := true) (sa := true) (sb := true) (se_int (s := true)) (sa_nil)))) (hN := nd__law_known)) (sb_cons (ss_set (s := false) 14 (se_op (s := false) (sa := true) (sb := false) op_mod ok_mod (se_idx (s := true) (sa := true) (sb := true) (se_var (s := true) 13) (se_int (s := true))) (se_idx (s := false) (sa := false) (sb := true) (se_lst (s := false) (sa_ev (s := false) (sa := false) (sb := false) (se_meth0 .n_total (nm_inj .n_total) (.io (pv 1 rfl (vis_ok (by rfl)))) (M_total_1 F (k' := 3)) hr tk) (sa_ev (s := false) (sa := false) (sb := true) (se_b2 (s := false) (sa := false) (sb := true) (call_min2 rfl) ok_min2 (se_meth0 .n_total (nm_inj .n_total) (.io (pv 1 rfl (vis_ok (by rfl)))) (M_total_1 F (k' := 3)) hr tk) (se_int (s := true)) (F.free 12) bt_min) (sa_nil)))) (se_op (s := true) (sa := true) (sb := true) op_mod ok_mod (se_op (s := true) (sa := true) (sb := true) op_fdiv ok_div (se_var (s := true) 5) (se_int (s := true))) (se_int (s := true))))) (hN := nd__law_known)) (sb_cons (ss_if (s := true) (st_val (s := true) (se_var (s := true) 6)) (sb_one (ss_set (s := false) 14 (se_op (s := false) (sa := true) (sb := false) op_mulA ok_mul (se_op (s := true) (sa := true) (sb := true) op_mod ok_mod (se_idx (s := true) (sa := true) (sb := true) (se_var (s := true) 13) (se_int (s := true))) (se_int (s := true))) (se_op (s := false) (sa := false) (sb := true) op_sub ok_sub (se_meth0 .n_total (nm_inj .n_total) (.io (pv 1 rfl (vis_ok (by rfl)))) (M_total_1 F (k' := 3)) hr tk) (se_int (s := true)))) (hN := nd__law_known))) (sb_nil)) (sb_cons (ss_set (s := false) 15 (se_op (s := false) (sa := true) (sb := false) op_addA ok_add (se_int (s := true)) (se_op (s := false) (sa := true) (sb := false) op_mod ok_mod (se_idx (s := true) (sa := true) (sb := true) (se_var (s := true) 13) (se_int (s := true))) (se_b2 (s := false) (sa := true) (sb := false) (call_min2 rfl) ok_min2 (se_op (s := true) (sa := true) (sb := true) op_sub ok_sub (se_int (s := true)) (se_t1 (s := true) (sa := true) call_int1 ok_int (se_var (s := true) 6) (F.free 20) bt_int)) (se_op (s := false) (sa := false) (sb := true) op_sub ok_sub (se_meth0 .n_total (nm_inj .n_total) (.io (pv 1 rfl (vis_ok (by rfl)))) (M_total_1 F (k' := 3)) hr tk) (se_var (s := true) 14)) (F.free 12) bt_min))) (hN := nd__law_known)) (sb_cons (ss_set (s := true) 10 (se_op (s := true) (sa := true) (sb := true) op_addA ok_add (se_op (s := true) (sa := true) (sb := true) op_addA ok_add (se_var (s := true) 10) (se_int (s := true))) (se_op (s := true) (sa := true) (sb := true) op_mod ok_mod (se_idx (s := true) (sa := true) (sb := true) (se_var (s := true) 13) (se_int (s := true))) (se_int (s := true)))) (hN := nd__law_known)) (sb_cons (by first | exact ss_set (s := false) 16 (se_lc (s := false) (sa := true) (sb := true) (sc := false) (own := [("j", 19)]) rfl nd__law_known (si_range1 (s := true) (se_var (s := true) 15) (F.free 0)) (blk_ok (by kernel_rfl)) (fun _ _ _ _ _ => pgT_nm 19 nd__law_known) (fun _ _ _ _ _ => pts_yes) (fun _ _ _ _ _ => se_meth .n_cell_at (nm_inj .n_cell_at) (.io (pv 1 rfl (vis_ok (by rfl)))) (M_cell_at_2 F (k' := 3)) hr takes0 (sa_w (sa_ev (s := true) (sa := true) (sb := true) (se_op (s := true) (sa := true) (sb := true) op_addA ok_add (se_var (s := true) 14) (se_var (s := true) 19)) (sa_nil))))) (hN := nd__law_known) | exact ss_setLc (sa := true) (sb := true) (sc := false) (own := [("j", 19)]) rfl nd__law_known rfl rfl rfl (si_range1 (s := true) (se_var (s := true) 15) (F.free 0)) (blk_ok (by kernel_rfl)) (fun _ _ _ _ _ => pgT_nm 19 nd__law_known) (fun _ _ _ _ _ => pts_yes) (fun _ _ _ _ _ => se_meth .n_cell_at (nm_inj .n_cell_at) (.io (pv 1 rfl (vis_ok (by rfl)))) (M_cell_at_2 F (k' := 3)) hr takes0 (sa_w (sa_ev (s := true) (sa := true) (sb := true) (se_op (s := true) (sa := true) (sb := true) op_addA ok_add (se_var (s := true) 14) (se_var (s := true) 19)) (sa_nil))))) (sb_cons (ss_set (s := false) 11 (se_call ((ok__law_behind_way F).callee (k := 2) (k' := 3) (dfl := []) 0) (F.glo 18) (ok__law_behind_way (P := P) (w := w) (base := base) F).kp hr tk (sa_w (sa_ev (s := true) (sa := true) (sb := true) (se_use (s := true) 2) (sa_ev (s := true) (sa := true) (sb := true) (se_idx (s := true) (sa := true) (sb := true) (se_var (s := true) 11) (se_int (s := true))) (sa_ev (s := true) (sa := true) (sb := true) (se_idx (s := true) (sa := true) (sb := true) (se_var (s := true) 11) (se_int (s := true))) (sa_ev (s := true) (sa := true) (sb := true) (se_use (s := true) 16) (sa_nil))))))) (hN := nd__law_known)) (sb_cons (ss_set (s := true) 17 (se_idx (s := true) (sa := true) (sb := true) (se_lst (s := true) (sa_ev (s := true) (sa := true) (sb := true) (se_non (s := true)) (sa_ev (s := true) (sa := true) (sb := true) (se_op (s := true) (sa := true) (sb := true) op_sub ok_sub (se_idx (s := true) (sa := true) (sb := true) (se_var (s := true) 11) (se_int (s := true))) (se_op (s := true) (sa := true) (sb := true) op_mod ok_mod (se_idx (s := true) (sa := true) (sb := true) (se_var (s := true) 13) (se_int (s := true))) (se_int (s := true)))) (sa_nil)))) (se_op (s := true) (sa := true) (sb := true) op_mod ok_mod (se_idx (s := true) (sa := true) (sb := true) (se_var (s := true) 13) (se_int (s := true))) (se_int (s := true)))) (hN := nd__law_known)) (sb_cons (ss_if (s := true) (st_cmp (s := true) (sa := true) (sb := true) op_gt ok_gt (se_op (s := true) (sa := true) (sb := true) op_mod ok_mod (se_idx (s := true) (sa := true) (sb := true) (se_var (s := true) 13) (se_int (s := true))) (se_int (s := true))) (se_int (s := true))) (sb_one (ss_set (s := true) 17 (se_op (s := true) (sa := true) (sb := true) op_addA ok_add (se_idx (s := true) (sa := true) (sb := true) (se_var (s := true) 3) (se_int (s := true))) (se_op (s := true) (sa := true) (sb := true) op_mod ok_mod (se_idx (s := true) (sa := true) (sb := true) (se_var (s := true) 13) (se_int (s := true))) (se_op (s := true) (sa := true) (sb := true) op_addA ok_add (se_int (s := true)) (se_op (s := true) (sa := true) (sb := true) op_mulA ok_mul (se_var (s := true) 8) (se_op (s := true) (sa := true) (sb := true) op_addA ok_add (se_int (s := true)) (se_op (s := true) (sa := true) (sb := true) op_mod ok_mod (se_idx (s := true) (sa := true) (sb := true) (se_var (s := true) 13) (se_int (s := true))) (se_idx (s := true) (sa := true) (sb := true) (se_lst (s := true) (sa_ev (s := true) (sa := true) (sb := true) (se_int (s := true)) (sa_ev (s := true) (sa := true) (sb := true) (se_int (s := true)) (sa_nil)))) (se_t1 (s := true) (sa := true) call_int1 ok_int (se_var (s := true) 6) (F.free 20) bt_int)))))))) (hN := nd__law_known))) (sb_nil)) (sb_cons (ss_set (s := true) 18 (se_t1 (s := true) (sa := true) call_tuple_of ok_tuple (se_lc (s := true) (sa := true) (sb := true) (sc := true) (own := [("j", 19)]) rfl nd__law_known (si_range1 (s := true) (se_var (s := true) 10) (F.free 0)) (blk_ok (by kernel_rfl)) (fun _ _ _ _ _ => pgT_nm 19 nd__law_known) (fun _ _ _ _ _ => pts_one (SW.st (sw_and (s := true) (sa := true) (sb := true) (st_cmp (s := true) (sa := true) (sb := true) (op_eqD hr.units) ok_eqD (se_op (s := true) (sa := true) (sb := true) op_mod ok_mod (se_op (s := true) (sa := true) (sb := true) op_fdiv ok_div (se_idx (s := true) (sa := true) (sb := true) (se_var (s := true) 13) (se_int (s := true))) (se_op (s := true) (sa := true) (sb := true) op_addA ok_add (se_int (s := true)) (se_var (s := true) 19))) (se_int (s := true))) (se_int (s := true))) (sw_and1 (s := true) (st_cmp (s := true) (sa := true) (sb := true) (op_eqD hr.units) ok_eqD (se_op (s := true) (sa := true) (sb := true) op_mod ok_mod (se_idx (s := true) (sa := true) (sb := true) (se_var (s := true) 13) (se_int (s := true))) (se_int (s := true))) (se_int (s := true))))))) (fun _ _ _ _ _ => se_use (s := true) 19)) (F.free 21) bt_tuple) (hN := nd__law_known)) (sb_one (ss_append (sy := true) (sl_var 9) (se_tup (s := true) (sa_ev (s := true) (sa := true) (sb := true) (se_use (s := true) 10) (sa_ev (s := true) (sa := true) (sb := true) (se_use (s := true) 14) (sa_ev (s := true) (sa := true) (sb := true) (se_use (s := true) 15) (sa_ev (s := true) (sa := true) (sb := true) (se_or (s := true) (sa := true) (sb := true) (se_var (s := true) 6) (se_one (se_cmp (s := true) (sa := true) (sb := true) (op_eqD hr.units) ok_eqD (se_op (s := true) (sa := true) (sb := true) op_mod ok_mod (se_idx (s := true) (sa := true) (sb := true) (se_var (s := true) 13) (se_int (s := true))) (se_int (s := true))) (se_int (s := true))))) (sa_ev (s := true) (sa := true) (sb := true) (se_use (s := true) 18) (sa_ev (s := true) (sa := true) (sb := true) (se_use (s := true) 17) (sa_ev (s := true) (sa := true) (sb := true) (se_use (s := true) 16) (sa_nil)))))))))))))))))))))) (sb_cons (ss_if (s := true) (st_cmp (s := true) (sa := true) (sb := true) (op_eqD hr.units) ok_eqD (se_op (s := true) (sa := true) (sb := true) op_mod ok_mod (se_op (s := true) (sa := true) (sb := true) op_fdiv ok_div (se_var (s := true) 5) (se_int (s := true))) (se_int (s := true))) (se_int (s := true))) (sb_one (ss_set (s := false) 9 (se_call ((ok__law_beside F).callee (k := 3) (k' := 3) (dfl := []) 0) (F.glo 22) (ok__law_beside (P := P) (w := w) (base := base) F).kp hr tk (sa_w (sa_ev (s := true) (sa := true) (sb := true) (se_use (s := true) 1) (sa_ev (s := true) (sa := true) (sb := true) (se_use (s := true) 2) (sa_ev (s := true) (sa := true) (sb := true) (se_use (s := true) 3) (sa_ev (s := true) (sa := true) (sb := true) (se_op (s := true) (sa := true) (sb := true) op_fdiv ok_div (se_var (s := true) 5) (se_int (s := true))) (sa_nil))))))) (hN := nd__law_known))) (sb_nil)) (sb_cons (ss_if (s := true) (st_cmp (s := true) (sa := true) (sb := true) (op_eqD hr.units) ok_eqD (se_op (s := true) (sa := true) (sb := true) op_mod ok_mod (se_op (s := true) (sa := true) (sb := true) op_fdiv ok_div (se_var (s := true) 5) (se_int (s := true))) (se_int (s := true))) (se_int (s := true))) (sb_one (ss_set (s := false) 9 (se_call ((ok__law_tight F).callee (k := 3) (k' := 3) (dfl := []) 0) (F.glo 23) (ok__law_tight (P := P) (w := w) (base := base) F).kp hr tk (sa_w (sa_ev (s := true) (sa := true) (sb := true) (se_use (s := true) 2) (sa_ev (s := true) (sa := true) (sb := true) (se_use (s := true) 3) (sa_io (s := true) 9 (sa_nil)))))) (hN := nd__law_known))) (sb_nil)) (sb_one (ss_ret (s := true) (se_mv (s := true) 9)))))))))))))
theorem ok__law_known (F : Fx fa ck fn K mg) : DefOk P w K mg base 4 (He.fAd K ("_law_known", none)) 5 [] F__law_known := by
  obtain ⟨fd, Fd⟩ := F.def_ 34 (d := d__law_known) rfl
  exact def_law (fc := c__law_known) Fd sc__law_known rfl rfl rfl rfl (bd0 rfl rfl Fd fun _ _ _ _ _ _ us hl => match us, hl with | [_, _, _, _, _], _ => rfl) fun cdv A outer s H E hr => sb__law_known F cdv A outer s H E hr
theorem nd_stretch : (["plate", "ask", "number"] : List Str).Nodup := by decide +kernel
theorem sc_stretch : FnScope ["plate", "ask", "number"] ["plate", "ask"] d_stretch.scope := ⟨rfl, rfl, rfl, nd_stretch, rfl, by decide +kernel, by decide +kernel⟩
theorem sb_stretch (F : Fx fa ck fn K mg) (cdv : Value) (A : Around) (outer : List Env) (s : Shared) (H : Hp) (E : XK) (hr : Room 2 (A.deeper (envOfC d_stretch.qual d_stretch.scope s.heap.objs.size (He.fAd K d_stretch.at_) cdv))) :
    SB (cxOf (L2.CX P w) P w K mg base ["plate", "ask", "number"] d_stretch.qual d_stretch.scope (He.fAd K d_stretch.at_) cdv A outer s H E) (fun cls d _ H => E cls d H) (ioIx c_stretch.io) d_stretch.body c_stretch.body := by
  have tk : Takes (cxOf (L2.CX P w) P w K mg base ["plate", "ask", "number"] d_stretch.qual d_stretch.scope (He.fAd K d_stretch.at_) cdv A outer s H E) (fun cls d _ H => E cls d H) := takes_of rfl rfl rfl rfl
  exact sb_one (ss_ret (s := false) (se_lc (s := false) (sa := true) (sb := true) (sc := false) (own := [("number", 2)]) rfl nd_stretch (si_range2 (s := true) (sa := true) (sb := true) (se_fld (s := true) (FO F) .n_first (se_var (s := true) 1)) (se_op (s := true) (sa := true) (sb := true) op_addA ok_add (se_fld (s := true) (FO F) .n_first (se_var (s := true) 1)) (se_fld (s := true) (FO F) .n_many (se_var (s := true) 1))) (F.free 0)) (blk_ok (by kernel_rfl)) (fun _ _ _ _ _ => pgT_nm 2 nd_stretch) (fun _ _ _ _ _ => pts_yes) (fun _ _ _ _ _ => se_meth .n_cell_at (nm_inj .n_cell_at) (.io (pv 0 rfl (vis_ok (by rfl)))) (M_cell_at_2 F (k' := 2)) hr takes0 (sa_w (sa_ev (s := true) (sa := true) (sb := true) (se_use (s := true) 2) (sa_nil))))))
theorem ok_stretch (F : Fx fa ck fn K mg) : DefOk P w K mg base 3 (He.fAd K ("stretch", none)) 2 [] F_stretch := by
  obtain ⟨fd, Fd⟩ := F.def_ 6 (d := d_stretch) rfl
  exact def_law (fc := c_stretch) Fd sc_stretch rfl rfl rfl rfl (bd0 rfl rfl Fd fun _ _ _ _ _ _ us hl => match us, hl with | [_, _], _ => rfl) fun cdv A outer s H E hr => sb_stretch F cdv A outer s H E hr
theorem nd_numbered_stretch : (["plate", "ask", "number", "cells", "e"] : List Str).Nodup := by decide +kernel
theorem sc_numbered_stretch : FnScope ["plate", "ask", "number", "cells", "e"] ["plate", "ask", "number"] d_numbered_stretch.scope := ⟨rfl, rfl, rfl, nd_numbered_stretch, rfl, by decide +kernel, by decide +kernel⟩
theorem sb_numbered_stretch (F : Fx fa ck fn K mg) (cdv : Value) (A : Around) (outer : List Env) (s : Shared) (H : Hp) (E : XK) (hr : Room 3 (A.deeper (envOfC d_numbered_stretch.qual d_numbered_stretch.scope s.heap.objs.size (He.fAd K d_numbered_stretch.at_) cdv))) :
    SB (cxOf (L2.CX P w) P w K mg base ["plate", "ask", "number", "cells", "e"] d_numbered_stretch.qual d_numbered_stretch.scope (He.fAd K d_numbered_stretch.at_) cdv A outer s H E) (fun cls d _ H => E cls d H) (ioIx c_numbered_stretch.io) d_numbered_stretch.body c_numbered_stretch.body := by
  have tk : Takes (cxOf (L2.CX P w) P w K mg base ["plate", "ask", "number", "cells", "e"] d_numbered_stretch.qual d_numbered_stretch.scope (He.fAd K d_numbered_stretch.at_) cdv A outer s H E) (fun cls d _ H => E cls d H) := takes_of rfl rfl rfl rfl
  exact sb_cons (ss_try (sb_one (ss_set (s := false) 3 (se_call ((ok_stretch F).callee (k := 3) (k' := 3) (dfl := []) 0) (F.glo 24) (ok_stretch (P := P) (w := w) (base := base) F).kp hr takes0 (sa_w (sa_ev (s := true) (sa := true) (sb := true) (se_use (s := true) 0) (sa_ev (s := true) (sa := true) (sb := true) (se_use (s := true) 1) (sa_nil))))) (hN := nd_numbered_stretch)))) (sb_one (ss_ret (s := true) (se_mv (s := true) 3)))
theorem ok_numbered_stretch (F : Fx fa ck fn K mg) : DefOk P w K mg base 4 (He.fAd K ("numbered_stretch", none)) 3 [] F_numbered_stretch := by
  obtain ⟨fd, Fd⟩ := F.def_ 7 (d := d_numbered_stretch) rfl
  exact def_law (fc := c_numbered_stretch) Fd sc_numbered_stretch rfl rfl rfl rfl (bd0 rfl rfl Fd fun _ _ _ _ _ _ us hl => match us, hl with | [_, _, _], _ => rfl) fun cdv A outer s H E hr => sb_numbered_stretch F cdv A outer s H E hr
theorem nd_DueUU_initUU : (["self", "plate", "number", "ask"] : List Str).Nodup := by decide +kernel
theorem sc_DueUU_initUU : FnScope ["self", "plate", "number", "ask"] ["self", "plate", "number", "ask"] d_DueUU_initUU.scope := ⟨rfl, rfl, rfl, nd_DueUU_initUU, rfl, by decide +kernel, by decide +kernel⟩
theorem sb_DueUU_initUU (F : Fx fa ck fn K mg) (cdv : Value) (A : Around) (outer : List Env) (s : Shared) (H : Hp) (E : XK) (hr : Room 4 (A.deeper (envOfC d_DueUU_initUU.qual d_DueUU_initUU.scope s.heap.objs.size (He.fAd K d_DueUU_initUU.at_) cdv))) :
    SB (cxOf (L2.CX P w) P w K mg base ["self", "plate", "number", "ask"] d_DueUU_initUU.qual d_DueUU_initUU.scope (He.fAd K d_DueUU_initUU.at_) cdv A outer s H E) (fun cls d _ H => E cls d H) (ioIx c_DueUU_initUU.io) d_DueUU_initUU.body c_DueUU_initUU.body := by
  have tk : Takes (cxOf (L2.CX P w) P w K mg base ["self", "plate", "number", "ask"] d_DueUU_initUU.qual d_DueUU_initUU.scope (He.fAd K d_DueUU_initUU.at_) cdv A outer s H E) (fun cls d _ H => E cls d H) := takes_of rfl rfl rfl rfl
  exact sb_cons (ss_fld (s := true) (FO F) 0 .n_number (se_use (s := true) 2)) (sb_cons (ss_fld (s := true) (FO F) 0 .n_ask (se_use (s := true) 3)) (sb_one (ss_fld (s := false) (FO F) 0 .n_cells (se_call ((ok_numbered_stretch F).callee (k := 4) (k' := 4) (dfl := []) 0) (F.glo 25) (ok_numbered_stretch (P := P) (w := w) (base := base) F).kp hr tk (sa_w (sa_ev (s := true) (sa := true) (sb := true) (se_use (s := true) 1) (sa_ev (s := true) (sa := true) (sb := true) (se_use (s := true) 3) (sa_ev (s := true) (sa := true) (sb := true) (se_use (s := true) 2) (sa_nil)))))))))
theorem ok_DueUU_initUU (F : Fx fa ck fn K mg) : DefOk P w K mg base 5 (He.fAd K ("Due", some "__init__")) 4 [] F_DueUU_initUU := by
  obtain ⟨fd, Fd⟩ := F.def_ 8 (d := d_DueUU_initUU) rfl
  exact def_law (fc := c_DueUU_initUU) Fd sc_DueUU_initUU rfl rfl rfl rfl (bd0 rfl rfl Fd fun _ _ _ _ _ _ us hl => match us, hl with | [_, _, _, _], _ => rfl) fun cdv A outer s H E hr => sb_DueUU_initUU F cdv A outer s H E hr
theorem nd_check : (["number", "most"] : List Str).Nodup := by decide +kernel
theorem sc_check : FnScope ["number", "most"] ["number", "most"] d_check.scope := ⟨rfl, rfl, rfl, nd_check, rfl, by decide +kernel, by decide +kernel⟩
theorem sb_check (F : Fx fa ck fn K mg) (cdv : Value) (A : Around) (outer : List Env) (s : Shared) (H : Hp) (E : XK) (hr : Room 0 (A.deeper (envOfC d_check.qual d_check.scope s.heap.objs.size (He.fAd K d_check.at_) cdv))) :
    SB (cxOf (L2.CX P w) P w K mg base ["number", "most"] d_check.qual d_check.scope (He.fAd K d_check.at_) cdv A outer s H E) (fun cls d _ H => E cls d H) (ioIx c_check.io) d_check.body c_check.body := by
  have tk : Takes (cxOf (L2.CX P w) P w K mg base ["number", "most"] d_check.qual d_check.scope (He.fAd K d_check.at_) cdv A outer s H E) (fun cls d _ H => E cls d H) := takes_of rfl rfl rfl rfl
  exact sb_one (ss_if (s := true) (st_not (s := true) (st_chain (s := true) (sa := true) (sb := true) (sc := true) op_le op_le (se_int (s := true)) (se_var (s := true) 0) (se_var (s := true) 1))) (sb_one (ss_never)) (sb_nil))
theorem ok_check (F : Fx fa ck fn K mg) : DefOk P w K mg base 1 (He.fAd K ("check", none)) 2 [] F_check := by
  obtain ⟨fd, Fd⟩ := F.def_ 1 (d := d_check) rfl
  exact def_law (fc := c_check) Fd sc_check rfl rfl rfl rfl (bd0 rfl rfl Fd fun _ _ _ _ _ _ us hl => match us, hl with | [_, _], _ => rfl) fun cdv A outer s H E hr => sb_check F cdv A outer s H E hr
theorem nd_with_rest : (["ask", "asker", "latest", "behind", "last", "number"] : List Str).Nodup := by decide +kernel
theorem sc_with_rest : FnScope ["ask", "asker", "latest", "behind", "last", "number"] ["ask", "asker", "latest", "behind"] d_with_rest.scope := ⟨rfl, rfl, rfl, nd_with_rest, rfl, by decide +kernel, by decide +kernel⟩
theorem sb_with_rest (F : Fx fa ck fn K mg) (cdv : Value) (A : Around) (outer : List Env) (s : Shared) (H : Hp) (E : XK) (hr : Room 1 (A.deeper (envOfC d_with_rest.qual d_with_rest.scope s.heap.objs.size (He.fAd K d_with_rest.at_) cdv))) :
    SB (cxOf (L2.CX P w) P w K mg base ["ask", "asker", "latest", "behind", "last", "number"] d_with_rest.qual d_with_rest.scope (He.fAd K d_with_rest.at_) cdv A outer s H E) (fun cls d _ H => E cls d H) (ioIx c_with_rest.io) d_with_rest.body c_with_rest.body := by
  have tk : Takes (cxOf (L2.CX P w) P w K mg base ["ask", "asker", "latest", "behind", "last", "number"] d_with_rest.qual d_with_rest.scope (He.fAd K d_with_rest.at_) cdv A outer s H E) (fun cls d _ H => E cls d H) := takes_of rfl rfl rfl rfl
  exact sb_cons (ss_expr (s := false) (se_call ((ok_check F).callee (k := 1) (k' := 1) (dfl := []) 0) (F.glo 26) (ok_check (P := P) (w := w) (base := base) F).kp hr tk (sa_w (sa_ev (s := true) (sa := true) (sb := true) (se_fld (s := true) (FO F) .n_first (se_var (s := true) 0)) (sa_ev (s := true) (sa := true) (sb := true) (se_op (s := true) (sa := true) (sb := true) op_pow ok_pow (se_int (s := true)) (se_int (s := true))) (sa_nil)))))) (sb_cons (ss_expr (s := false) (se_call ((ok_check F).callee (k := 1) (k' := 1) (dfl := []) 0) (F.glo 26) (ok_check (P := P) (w := w) (base := base) F).kp hr tk (sa_w (sa_ev (s := true) (sa := true) (sb := true) (se_op (s := true) (sa := true) (sb := true) op_sub ok_sub (se_fld (s := true) (FO F) .n_many (se_var (s := true) 0)) (se_int (s := true))) (sa_ev (s := true) (sa := true) (sb := true) (se_int (s := true)) (sa_nil)))))) (sb_cons (ss_expr (s := false) (se_call ((ok_check F).callee (k := 1) (k' := 1) (dfl := []) 0) (F.glo 26) (ok_check (P := P) (w := w) (base := base) F).kp hr tk (sa_w (sa_ev (s := true) (sa := true) (sb := true) (se_fld (s := true) (FO F) .n_at (se_var (s := true) 0)) (sa_ev (s := true) (sa := true) (sb := true) (se_op (s := true) (sa := true) (sb := true) op_pow ok_pow (se_int (s := true)) (se_int (s := true))) (sa_nil)))))) (sb_cons (ss_expr (s := false) (se_call ((ok_check F).callee (k := 1) (k' := 1) (dfl := []) 0) (F.glo 26) (ok_check (P := P) (w := w) (base := base) F).kp hr tk (sa_w (sa_ev (s := true) (sa := true) (sb := true) (se_use (s := true) 1) (sa_ev (s := true) (sa := true) (sb := true) (se_int (s := true)) (sa_nil)))))) (sb_cons (ss_if (s := true) (st_cmp (s := true) (sa := true) (sb := true) op_notN ok_notN (se_var (s := true) 2) (se_non (s := true))) (sb_one (ss_expr (s := false) (se_call ((ok_check F).callee (k := 1) (k' := 1) (dfl := []) 0) (F.glo 26) (ok_check (P := P) (w := w) (base := base) F).kp hr tk (sa_w (sa_ev (s := true) (sa := true) (sb := true) (se_use (s := true) 2) (sa_ev (s := true) (sa := true) (sb := true) (se_op (s := true) (sa := true) (sb := true) op_pow ok_pow (se_int (s := true)) (se_int (s := true))) (sa_nil))))))) (sb_nil)) (sb_cons (ss_if (s := true) (st_cmp (s := true) (sa := true) (sb := true) op_isN ok_isN (se_var (s := true) 3) (se_non (s := true))) (sb_one (ss_set (s := true) 3 (se_tup (s := true) (sa_nil)) (hN := nd_with_rest))) (sb_nil)) (sb_cons (ss_set (s := true) 4 (se_neg (s := true) (sa := true) (se_int (s := true))) (hN := nd_with_rest)) (sb_cons (ss_for (s := true) (t := .nm 5) (passes_of rfl) rfl (si_any (s := true) (se_use (s := true) 3)) (pgT_nm 5 nd_with_rest) (sb_cons (ss_expr (s := false) (se_call ((ok_check F).callee (k := 1) (k' := 1) (dfl := []) 0) (F.glo 26) (ok_check (P := P) (w := w) (base := base) F).kp hr tk (sa_w (sa_ev (s := true) (sa := true) (sb := true) (se_use (s := true) 5) (sa_ev (s := true) (sa := true) (sb := true) (se_int (s := true)) (sa_nil)))))) (sb_cons (ss_if (s := true) (st_cmp (s := true) (sa := true) (sb := true) op_le ok_le (se_var (s := true) 5) (se_var (s := true) 4)) (sb_one (ss_never)) (sb_nil)) (sb_one (ss_set (s := true) 4 (se_use (s := true) 5) (hN := nd_with_rest)))))) (sb_cons (ss_fld (s := true) (FO F) 0 .n_asker (se_use (s := true) 1)) (sb_cons (ss_fld (s := true) (FO F) 0 .n_latest (se_use (s := true) 2)) (sb_cons (ss_fld (s := true) (FO F) 0 .n_behind (se_t1 (s := true) (sa := true) call_tuple_of ok_tuple (se_var (s := true) 3) (F.free 21) bt_tuple)) (sb_one (ss_ret (s := true) (se_mv (s := true) 0)))))))))))))
theorem ok_with_rest (F : Fx fa ck fn K mg) : DefOk P w K mg base 2 (He.fAd K ("with_rest", none)) 4 [] F_with_rest := by
  obtain ⟨fd, Fd⟩ := F.def_ 2 (d := d_with_rest) rfl
  exact def_law (fc := c_with_rest) Fd sc_with_rest rfl rfl rfl rfl (bd0 rfl rfl Fd fun _ _ _ _ _ _ us hl => match us, hl with | [_, _, _, _], _ => rfl) fun cdv A outer s H E hr => sb_with_rest F cdv A outer s H E hr
theorem nd_AskUU_initUU : (["self", "kind", "first", "many", "marks", "at"] : List Str).Nodup := by decide +kernel
theorem sc_AskUU_initUU : FnScope ["self", "kind", "first", "many", "marks", "at"] ["self", "kind", "first", "many", "marks", "at"] d_AskUU_initUU.scope := ⟨rfl, rfl, rfl, nd_AskUU_initUU, rfl, by decide +kernel, by decide +kernel⟩
theorem sb_AskUU_initUU (F : Fx fa ck fn K mg) (cdv : Value) (A : Around) (outer : List Env) (s : Shared) (H : Hp) (E : XK) (hr : Room 0 (A.deeper (envOfC d_AskUU_initUU.qual d_AskUU_initUU.scope s.heap.objs.size (He.fAd K d_AskUU_initUU.at_) cdv))) :
    SB (cxOf (L2.CX P w) P w K mg base ["self", "kind", "first", "many", "marks", "at"] d_AskUU_initUU.qual d_AskUU_initUU.scope (He.fAd K d_AskUU_initUU.at_) cdv A outer s H E) (fun cls d _ H => E cls d H) (ioIx c_AskUU_initUU.io) d_AskUU_initUU.body c_AskUU_initUU.body := by
  have tk : Takes (cxOf (L2.CX P w) P w K mg base ["self", "kind", "first", "many", "marks", "at"] d_AskUU_initUU.qual d_AskUU_initUU.scope (He.fAd K d_AskUU_initUU.at_) cdv A outer s H E) (fun cls d _ H => E cls d H) := takes_of rfl rfl rfl rfl
  exact sb_cons (ss_fld (s := true) (FO F) 0 .n_kind (se_use (s := true) 1)) (sb_cons (ss_fld (s := true) (FO F) 0 .n_first (se_use (s := true) 2)) (sb_cons (ss_fld (s := true) (FO F) 0 .n_many (se_use (s := true) 3)) (sb_cons (ss_fld (s := true) (FO F) 0 .n_marks (se_use (s := true) 4)) (sb_cons (ss_fld (s := true) (FO F) 0 .n_at (se_use (s := true) 5)) (sb_cons (ss_fld (s := true) (FO F) 0 .n_asker (se_int (s := true))) (sb_cons (ss_fld (s := true) (FO F) 0 .n_latest (se_non (s := true))) (sb_cons (ss_fld (s := true) (FO F) 0 .n_behind (se_tup (s := true) (sa_nil))) (sb_one (ss_fld (s := true) (FO F) 0 .n_early (se_bl (s := true)))))))))))
theorem ok_AskUU_initUU (F : Fx fa ck fn K mg) : DefOk P w K mg base 1 (He.fAd K ("Ask", some "__init__")) 6 [] F_AskUU_initUU := by
  obtain ⟨fd, Fd⟩ := F.def_ 0 (d := d_AskUU_initUU) rfl
  exact def_law (fc := c_AskUU_initUU) Fd sc_AskUU_initUU rfl rfl rfl rfl (bd0 rfl rfl Fd fun _ _ _ _ _ _ us hl => match us, hl with | [_, _, _, _, _, _], _ => rfl) fun cdv A outer s H E hr => sb_AskUU_initUU F cdv A outer s H E hr
theorem nd_reading : (["first", "many", "at", "asker", "latest", "behind"] : List Str).Nodup := by decide +kernel
theorem sc_reading : FnScope ["first", "many", "at", "asker", "latest", "behind"] ["first", "many", "at", "asker", "latest", "behind"] d_reading.scope := ⟨rfl, rfl, rfl, nd_reading, rfl, by decide +kernel, by decide +kernel⟩
theorem sb_reading (F : Fx fa ck fn K mg) (cdv : Value) (A : Around) (outer : List Env) (s : Shared) (H : Hp) (E : XK) (hr : Room 2 (A.deeper (envOfC d_reading.qual d_reading.scope s.heap.objs.size (He.fAd K d_reading.at_) cdv))) :
    SB (cxOf (L2.CX P w) P w K mg base ["first", "many", "at", "asker", "latest", "behind"] d_reading.qual d_reading.scope (He.fAd K d_reading.at_) cdv A outer s H E) (fun cls d _ H => E cls d H) (ioIx c_reading.io) d_reading.body c_reading.body := by
  have tk : Takes (cxOf (L2.CX P w) P w K mg base ["first", "many", "at", "asker", "latest", "behind"] d_reading.qual d_reading.scope (He.fAd K d_reading.at_) cdv A outer s H E) (fun cls d _ H => E cls d H) := takes_of rfl rfl rfl rfl
  exact sb_one (ss_ret (s := false) (se_call ((ok_with_rest F).callee (k := 2) (k' := 2) (dfl := []) 0) (F.glo 29) (ok_with_rest (P := P) (w := w) (base := base) F).kp hr tk (sa_ev (s := false) (sa := false) (sb := true) (se_make .n_Ask 0 (F.mkr 27) ((ok_AskUU_initUU F).callee (k := 1) (k' := 1) (dfl := []) 0) (F.glo 28) hr tk (sa_w (sa_ev (s := true) (sa := true) (sb := true) (se_str (s := true)) (sa_ev (s := true) (sa := true) (sb := true) (se_use (s := true) 0) (sa_ev (s := true) (sa := true) (sb := true) (se_use (s := true) 1) (sa_ev (s := true) (sa := true) (sb := true) (se_tup (s := true) (sa_nil)) (sa_ev (s := true) (sa := true) (sb := true) (se_use (s := true) 2) (sa_nil)))))))) (sa_ev (s := true) (sa := true) (sb := true) (se_use (s := true) 3) (sa_ev (s := true) (sa := true) (sb := true) (se_use (s := true) 4) (sa_ev (s := true) (sa := true) (sb := true) (se_use (s := true) 5) (sa_nil)))))))
theorem ok_reading (F : Fx fa ck fn K mg) : DefOk P w K mg base 3 (He.fAd K ("reading", none)) 6 [.int 0, .non, .non] F_reading := by
  obtain ⟨fd, Fd⟩ := F.def_ 3 (d := d_reading) rfl
  refine def_law (fc := c_reading) Fd sc_reading rfl rfl rfl rfl (fun j hj => ?_) fun cdv A outer s H E hr => sb_reading F cdv A outer s H E hr
  have hj : j ≤ 3 := hj
  obtain rfl | rfl | rfl | rfl : j = 0 ∨ j = 1 ∨ j = 2 ∨ j = 3 := by omega
  · exact Fd.binds1 3 0 (by intro h; cases h) rfl fun T kV doc pm an cdv ct us its h1 h2 => match us, its, h1, h2 with | [_, _, _], [_, _, _], _, _ => ⟨_, rfl, rfl⟩
  · exact Fd.binds1 4 1 (by intro h; cases h) rfl fun T kV doc pm an cdv ct us its h1 h2 => match us, its, h1, h2 with | [_, _, _, _], [_, _, _], _, _ => ⟨_, rfl, rfl⟩
  · exact Fd.binds1 5 2 (by intro h; cases h) rfl fun T kV doc pm an cdv ct us its h1 h2 => match us, its, h1, h2 with | [_, _, _, _, _], [_, _, _], _, _ => ⟨_, rfl, rfl⟩
  · exact Fd.binds1 6 3 (by intro h; cases h) rfl fun T kV doc pm an cdv ct us its h1 h2 => match us, its, h1, h2 with | [_, _, _, _, _, _], [_, _, _], _, _ => ⟨_, rfl, rfl⟩
theorem nd_writing : (["first", "marks", "at", "asker", "latest", "behind", "early", "mark", "ask"] : List Str).Nodup := by decide +kernel
theorem sc_writing : FnScope ["first", "marks", "at", "asker", "latest", "behind", "early", "mark", "ask"] ["first", "marks", "at", "asker", "latest", "behind", "early"] d_writing.scope := ⟨rfl, rfl, rfl, nd_writing, rfl, by decide +kernel, by decide +kernel⟩
theorem sb_writing (F : Fx fa ck fn K mg) (cdv : Value) (A : Around) (outer : List Env) (s : Shared) (H : Hp) (E : XK) (hr : Room 2 (A.deeper (envOfC d_writing.qual d_writing.scope s.heap.objs.size (He.fAd K d_writing.at_) cdv))) :
    SB (cxOf (L2.CX P w) P w K mg base ["first", "marks", "at", "asker", "latest", "behind", "early", "mark", "ask"] d_writing.qual d_writing.scope (He.fAd K d_writing.at_) cdv A outer s H E) (fun cls d _ H => E cls d H) (ioIx c_writing.io) d_writing.body c_writing.body := by
  have tk : Takes (cxOf (L2.CX P w) P w K mg base ["first", "marks", "at", "asker", "latest", "behind", "early", "mark", "ask"] d_writing.qual d_writing.scope (He.fAd K d_writing.at_) cdv A outer s H E) (fun cls d _ H => E cls d H) := takes_of rfl rfl rfl rfl
  exact sb_cons (ss_for (s := true) (t := .nm 7) (passes_of rfl) rfl (si_any (s := true) (se_use (s := true) 1)) (pgT_nm 7 nd_writing) (sb_one (ss_expr (s := false) (se_call ((ok_check F).callee (k := 1) (k' := 2) (dfl := []) 0) (F.glo 26) (ok_check (P := P) (w := w) (base := base) F).kp hr tk (sa_w (sa_ev (s := true) (sa := true) (sb := true) (se_use (s := true) 7) (sa_ev (s := true) (sa := true) (sb := true) (se_op (s := true) (sa := true) (sb := true) op_pow ok_pow (se_int (s := true)) (se_int (s := true))) (sa_nil)))))))) (sb_cons (ss_set (s := false) 8 (se_call ((ok_with_rest F).callee (k := 2) (k' := 2) (dfl := []) 0) (F.glo 29) (ok_with_rest (P := P) (w := w) (base := base) F).kp hr tk (sa_ev (s := false) (sa := false) (sb := true) (se_make .n_Ask 0 (F.mkr 27) ((ok_AskUU_initUU F).callee (k := 1) (k' := 1) (dfl := []) 0) (F.glo 28) hr tk (sa_w (sa_ev (s := true) (sa := true) (sb := true) (se_str (s := true)) (sa_ev (s := true) (sa := true) (sb := true) (se_use (s := true) 0) (sa_ev (s := true) (sa := true) (sb := true) (se_b1 (s := true) (sa := true) call_lenA ok_len (se_var (s := true) 1) (F.free 3) bt_len) (sa_ev (s := true) (sa := true) (sb := true) (se_t1 (s := true) (sa := true) call_tuple_of ok_tuple (se_var (s := true) 1) (F.free 21) bt_tuple) (sa_ev (s := true) (sa := true) (sb := true) (se_use (s := true) 2) (sa_nil)))))))) (sa_ev (s := true) (sa := true) (sb := true) (se_use (s := true) 3) (sa_ev (s := true) (sa := true) (sb := true) (se_use (s := true) 4) (sa_ev (s := true) (sa := true) (sb := true) (se_use (s := true) 5) (sa_nil)))))) (hN := nd_writing)) (sb_cons (ss_fld (s := true) (FO F) 8 .n_early (se_use (s := true) 6)) (sb_one (ss_ret (s := true) (se_mv (s := true) 8)))))
theorem ok_writing (F : Fx fa ck fn K mg) : DefOk P w K mg base 3 (He.fAd K ("writing", none)) 7 [.int 0, .non, .non, .bl false] F_writing := by
  obtain ⟨fd, Fd⟩ := F.def_ 4 (d := d_writing) rfl
  refine def_law (fc := c_writing) Fd sc_writing rfl rfl rfl rfl (fun j hj => ?_) fun cdv A outer s H E hr => sb_writing F cdv A outer s H E hr
  have hj : j ≤ 4 := hj
  obtain rfl | rfl | rfl | rfl | rfl : j = 0 ∨ j = 1 ∨ j = 2 ∨ j = 3 ∨ j = 4 := by omega
  · exact Fd.binds1 3 0 (by intro h; cases h) rfl fun T kV doc pm an cdv ct us its h1 h2 => match us, its, h1, h2 with | [_, _, _], [_, _, _, _], _, _ => ⟨_, rfl, rfl⟩
  · exact Fd.binds1 4 1 (by intro h; cases h) rfl fun T kV doc pm an cdv ct us its h1 h2 => match us, its, h1, h2 with | [_, _, _, _], [_, _, _, _], _, _ => ⟨_, rfl, rfl⟩
  · exact Fd.binds1 5 2 (by intro h; cases h) rfl fun T kV doc pm an cdv ct us its h1 h2 => match us, its, h1, h2 with | [_, _, _, _, _], [_, _, _, _], _, _ => ⟨_, rfl, rfl⟩
  · exact Fd.binds1 6 3 (by intro h; cases h) rfl fun T kV doc pm an cdv ct us its h1 h2 => match us, its, h1, h2 with | [_, _, _, _, _, _], [_, _, _, _], _, _ => ⟨_, rfl, rfl⟩
  · exact Fd.binds1 7 4 (by intro h; cases h) rfl fun T kV doc pm an cdv ct us its h1 h2 => match us, its, h1, h2 with | [_, _, _, _, _, _, _], [_, _, _, _], _, _ => ⟨_, rfl, rfl⟩
theorem nd__law_ask : (["one", "cell", "marks", "j"] : List Str).Nodup := by decide +kernel
theorem sc__law_ask : FnScope ["one", "cell", "marks", "j"] ["one", "cell"] d__law_ask.scope := ⟨rfl, rfl, rfl, nd__law_ask, rfl, by decide +kernel, by decide +kernel⟩
theorem sb__law_ask (F : Fx fa ck fn K mg) (cdv : Value) (A : Around) (outer : List Env) (s : Shared) (H : Hp) (E : XK) (hr : Room 3 (A.deeper (envOfC d__law_ask.qual d__law_ask.scope s.heap.objs.size (He.fAd K d__law_ask.at_) cdv))) :
    SB (cxOf (L2.CX P w) P w K mg base ["one", "cell", "marks", "j"] d__law_ask.qual d__law_ask.scope (He.fAd K d__law_ask.at_) cdv A outer s H E) (fun cls d _ H => E cls d H) (ioIx c__law_ask.io) d__law_ask.body c__law_ask.body := by
  have tk : Takes (cxOf (L2.CX P w) P w K mg base ["one", "cell", "marks", "j"] d__law_ask.qual d__law_ask.scope (He.fAd K d__law_ask.at_) cdv A outer s H E) (fun cls d _ H => E cls d H) := takes_of rfl rfl rfl rfl
  exact sb_cons (ss_if (s := true) (st_val (s := true) (se_idx (s := true) (sa := true) (sb := true) (se_var (s := true) 0) (se_int (s := true)))) (sb_cons (by first | exact ss_set (s := true) 2 (se_lc (s := true) (sa := true) (sb := true) (sc := true) (own := [("j", 3)]) rfl nd__law_ask (si_range1 (s := true) (se_idx (s := true) (sa := true) (sb := true) (se_var (s := true) 0) (se_int (s := true))) (F.free 0)) (blk_ok (by kernel_rfl)) (fun _ _ _ _ _ => pgT_nm 3 nd__law_ask) (fun _ _ _ _ _ => pts_yes) (fun _ _ _ _ _ => se_op (s := true) (sa := true) (sb := true) op_mod ok_mod (se_op (s := true) (sa := true) (sb := true) op_addA ok_add (se_var (s := true) 1) (se_op (s := true) (sa := true) (sb := true) op_mulA ok_mul (se_int (s := true)) (se_var (s := true) 3))) (se_op (s := true) (sa := true) (sb := true) op_addA ok_add (se_op (s := true) (sa := true) (sb := true) op_pow ok_pow (se_int (s := true)) (se_int (s := true))) (se_int (s := true))))) (hN := nd__law_ask) | exact ss_setLc (sa := true) (sb := true) (sc := true) (own := [("j", 3)]) rfl nd__law_ask rfl rfl rfl (si_range1 (s := true) (se_idx (s := true) (sa := true) (sb := true) (se_var (s := true) 0) (se_int (s := true))) (F.free 0)) (blk_ok (by kernel_rfl)) (fun _ _ _ _ _ => pgT_nm 3 nd__law_ask) (fun _ _ _ _ _ => pts_yes) (fun _ _ _ _ _ => se_op (s := true) (sa := true) (sb := true) op_mod ok_mod (se_op (s := true) (sa := true) (sb := true) op_addA ok_add (se_var (s := true) 1) (se_op (s := true) (sa := true) (sb := true) op_mulA ok_mul (se_int (s := true)) (se_var (s := true) 3))) (se_op (s := true) (sa := true) (sb := true) op_addA ok_add (se_op (s := true) (sa := true) (sb := true) op_pow ok_pow (se_int (s := true)) (se_int (s := true))) (se_int (s := true))))) (sb_one (ss_ret (s := false) (se_call ((ok_writing F).callee (k := 3) (k' := 3) (dfl := [.int 0, .non, .non, .bl false]) 4) (F.glo 30) (ok_writing (P := P) (w := w) (base := base) F).kp hr tk (sa_w (sa_ev (s := true) (sa := true) (sb := true) (se_idx (s := true) (sa := true) (sb := true) (se_var (s := true) 0) (se_int (s := true))) (sa_ev (s := true) (sa := true) (sb := true) (se_use (s := true) 2) (sa_ev (s := true) (sa := true) (sb := true) (se_op (s := true) (sa := true) (sb := true) op_mod ok_mod (se_var (s := true) 1) (se_op (s := true) (sa := true) (sb := true) op_pow ok_pow (se_int (s := true)) (se_int (s := true)))) (sa_ev (s := true) (sa := true) (sb := true) (se_op (s := true) (sa := true) (sb := true) op_mod ok_mod (se_var (s := true) 1) (se_int (s := true))) (sa_ev (s := true) (sa := true) (sb := true) (se_idx (s := true) (sa := true) (sb := true) (se_var (s := true) 0) (se_int (s := true))) (sa_ev (s := true) (sa := true) (sb := true) (se_idx (s := true) (sa := true) (sb := true) (se_var (s := true) 0) (se_int (s := true))) (sa_ev (s := true) (sa := true) (sb := true) (se_cmp (s := true) (sa := true) (sb := true) (op_eqD hr.units) ok_eqD (se_op (s := true) (sa := true) (sb := true) op_mod ok_mod (se_var (s := true) 1) (se_int (s := true))) (se_int (s := true))) (sa_nil))))))))))))) (sb_nil)) (sb_one (ss_ret (s := false) (se_call ((ok_reading F).callee (k := 3) (k' := 3) (dfl := [.int 0, .non, .non]) 3) (F.glo 31) (ok_reading (P := P) (w := w) (base := base) F).kp hr tk (sa_w (sa_ev (s := true) (sa := true) (sb := true) (se_idx (s := true) (sa := true) (sb := true) (se_var (s := true) 0) (se_int (s := true))) (sa_ev (s := true) (sa := true) (sb := true) (se_idx (s := true) (sa := true) (sb := true) (se_var (s := true) 0) (se_int (s := true))) (sa_ev (s := true) (sa := true) (sb := true) (se_op (s := true) (sa := true) (sb := true) op_mod ok_mod (se_var (s := true) 1) (se_op (s := true) (sa := true) (sb := true) op_pow ok_pow (se_int (s := true)) (se_int (s := true)))) (sa_ev (s := true) (sa := true) (sb := true) (se_op (s := true) (sa := true) (sb := true) op_mod ok_mod (se_var (s := true) 1) (se_int (s := true))) (sa_ev (s := true) (sa := true) (sb := true) (se_idx (s := true) (sa := true) (sb := true) (se_var (s := true) 0) (se_int (s := true))) (sa_ev (s := true) (sa := true) (sb := true) (se_idx (s := true) (sa := true) (sb := true) (se_var (s := true) 0) (se_int (s := true))) (sa_nil)))))))))))
theorem ok__law_ask (F : Fx fa ck fn K mg) : DefOk P w K mg base 4 (He.fAd K ("_law_ask", none)) 2 [] F__law_ask := by
  obtain ⟨fd, Fd⟩ := F.def_ 35 (d := d__law_ask) rfl
  exact def_law (fc := c__law_ask) Fd sc__law_ask rfl rfl rfl rfl (bd0 rfl rfl Fd fun _ _ _ _ _ _ us hl => match us, hl with | [_, _], _ => rfl) fun cdv A outer s H E hr => sb__law_ask F cdv A outer s H E hr
theorem nd__law_start : (["script", "most", "spec", "plate", "ring", "beat", "known", "dues", "one"] : List Str).Nodup := by decide +kernel
theorem sc__law_start : FnScope ["script", "most", "spec", "plate", "ring", "beat", "known", "dues", "one"] ["script", "most"] d__law_start.scope := ⟨rfl, rfl, rfl, nd__law_start, rfl, by decide +kernel, by decide +kernel⟩
theorem sb__law_start (F : Fx fa ck fn K mg) (cdv : Value) (A : Around) (outer : List Env) (s : Shared) (H : Hp) (E : XK) (hr : Room 6 (A.deeper (envOfC d__law_start.qual d__law_start.scope s.heap.objs.size (He.fAd K d__law_start.at_) cdv))) :
    SB (cxOf (L2.CX P w) P w K mg base ["script", "most", "spec", "plate", "ring", "beat", "known", "dues", "one"] d__law_start.qual d__law_start.scope (He.fAd K d__law_start.at_) cdv A outer s H E) (fun cls d _ H => E cls d H) (ioIx c__law_start.io) d__law_start.body c__law_start.body := by
  have tk : Takes (cxOf (L2.CX P w) P w K mg base ["script", "most", "spec", "plate", "ring", "beat", "known", "dues", "one"] d__law_start.qual d__law_start.scope (He.fAd K d__law_start.at_) cdv A outer s H E) (fun cls d _ H => E cls d H) := takes_of rfl rfl rfl rfl
  exact sb_cons (ss_set (s := false) 2 (se_call ((ok__law_spec F).callee (k := 2) (k' := 6) (dfl := []) 0) (F.glo 32) (ok__law_spec (P := P) (w := w) (base := base) F).kp hr tk (sa_ev (s := false) (sa := false) (sb := false) (se_call ((ok__law_cell_at F).callee (k := 1) (k' := 6) (dfl := []) 0) (F.glo 19) (ok__law_cell_at (P := P) (w := w) (base := base) F).kp hr tk (sa_w (sa_ev (s := true) (sa := true) (sb := true) (se_use (s := true) 0) (sa_ev (s := true) (sa := true) (sb := true) (se_int (s := true)) (sa_nil))))) (sa_ev (s := false) (sa := false) (sb := true) (se_call ((ok__law_cell_at F).callee (k := 1) (k' := 6) (dfl := []) 0) (F.glo 19) (ok__law_cell_at (P := P) (w := w) (base := base) F).kp hr tk (sa_w (sa_ev (s := true) (sa := true) (sb := true) (se_use (s := true) 0) (sa_ev (s := true) (sa := true) (sb := true) (se_int (s := true)) (sa_nil))))) (sa_nil)))) (hN := nd__law_start)) (sb_cons (ss_set (s := false) 3 (se_call ((ok__law_plate F).callee (k := 5) (k' := 6) (dfl := []) 0) (F.glo 33) (ok__law_plate (P := P) (w := w) (base := base) F).kp hr tk (sa_ev (s := false) (sa := true) (sb := false) (se_use (s := true) 2) (sa_ev (s := false) (sa := false) (sb := true) (se_call ((ok__law_cell_at F).callee (k := 1) (k' := 6) (dfl := []) 0) (F.glo 19) (ok__law_cell_at (P := P) (w := w) (base := base) F).kp hr tk (sa_w (sa_ev (s := true) (sa := true) (sb := true) (se_use (s := true) 0) (sa_ev (s := true) (sa := true) (sb := true) (se_int (s := true)) (sa_nil))))) (sa_nil)))) (hN := nd__law_start)) (sb_cons (ss_set (s := false) 4 (se_op (s := false) (sa := false) (sb := true) op_mod ok_mod (se_call ((ok__law_cell_at F).callee (k := 1) (k' := 6) (dfl := []) 0) (F.glo 19) (ok__law_cell_at (P := P) (w := w) (base := base) F).kp hr tk (sa_w (sa_ev (s := true) (sa := true) (sb := true) (se_use (s := true) 0) (sa_ev (s := true) (sa := true) (sb := true) (se_int (s := true)) (sa_nil))))) (se_b1 (s := true) (sa := true) call_lenA ok_len (se_idx (s := true) (sa := true) (sb := true) (se_var (s := true) 2) (se_int (s := true))) (F.free 3) bt_len)) (hN := nd__law_start)) (sb_cons (ss_set (s := false) 5 (se_op (s := false) (sa := false) (sb := false) op_mod ok_mod (se_call ((ok__law_cell_at F).callee (k := 1) (k' := 6) (dfl := []) 0) (F.glo 19) (ok__law_cell_at (P := P) (w := w) (base := base) F).kp hr tk (sa_w (sa_ev (s := true) (sa := true) (sb := true) (se_use (s := true) 0) (sa_ev (s := true) (sa := true) (sb := true) (se_int (s := true)) (sa_nil))))) (se_idx (s := false) (sa := true) (sb := false) (se_lst (s := true) (sa_ev (s := true) (sa := true) (sb := true) (se_op (s := true) (sa := true) (sb := true) op_pow ok_pow (se_int (s := true)) (se_int (s := true))) (sa_ev (s := true) (sa := true) (sb := true) (se_op (s := true) (sa := true) (sb := true) op_pow ok_pow (se_int (s := true)) (se_int (s := true))) (sa_nil)))) (se_op (s := false) (sa := false) (sb := true) op_mod ok_mod (se_op (s := false) (sa := false) (sb := true) op_fdiv ok_div (se_call ((ok__law_cell_at F).callee (k := 1) (k' := 6) (dfl := []) 0) (F.glo 19) (ok__law_cell_at (P := P) (w := w) (base := base) F).kp hr tk (sa_w (sa_ev (s := true) (sa := true) (sb := true) (se_use (s := true) 0) (sa_ev (s := true) (sa := true) (sb := true) (se_int (s := true)) (sa_nil))))) (se_int (s := true))) (se_int (s := true))))) (hN := nd__law_start)) (sb_cons (ss_set (s := false) 6 (se_call ((ok__law_known F).callee (k := 4) (k' := 6) (dfl := []) 0) (F.glo 34) (ok__law_known (P := P) (w := w) (base := base) F).kp hr tk (sa_w (sa_ev (s := true) (sa := true) (sb := true) (se_use (s := true) 0) (sa_ev (s := true) (sa := true) (sb := true) (se_use (s := true) 3) (sa_ev (s := true) (sa := true) (sb := true) (se_use (s := true) 2) (sa_ev (s := true) (sa := true) (sb := true) (se_tup (s := true) (sa_ev (s := true) (sa := true) (sb := true) (se_use (s := true) 4) (sa_ev (s := true) (sa := true) (sb := true) (se_use (s := true) 5) (sa_nil)))) (sa_ev (s := true) (sa := true) (sb := true) (se_use (s := true) 1) (sa_nil)))))))) (hN := nd__law_start)) (sb_cons (by first | exact ss_set (s := false) 7 (se_lc (s := false) (sa := true) (sb := true) (sc := false) (own := [("one", 8)]) rfl nd__law_start (si_any (s := true) (se_use (s := true) 6)) (blk_ok (by kernel_rfl)) (fun _ _ _ _ _ => pgT_nm 8 nd__law_start) (fun _ _ _ _ _ => pts_yes) (fun _ _ _ _ _ => se_make .n_Due 0 (F.mkr 36) ((ok_DueUU_initUU F).callee (k := 5) (k' := 5) (dfl := []) 0) (F.glo 37) hr takes0 (sa_ev (s := false) (sa := true) (sb := false) (se_use (s := true) 3) (sa_ev (s := false) (sa := true) (sb := false) (se_idx (s := true) (sa := true) (sb := true) (se_var (s := true) 8) (se_int (s := true))) (sa_ev (s := false) (sa := false) (sb := true) (se_call ((ok__law_ask F).callee (k := 4) (k' := 6) (dfl := []) 0) (F.glo 35) (ok__law_ask (P := P) (w := w) (base := base) F).kp hr takes0 (sa_ev (s := false) (sa := true) (sb := false) (se_use (s := true) 8) (sa_ev (s := false) (sa := false) (sb := true) (se_op (s := false) (sa := false) (sb := true) op_addA ok_add (se_call ((ok__law_cell_at F).callee (k := 1) (k' := 6) (dfl := []) 0) (F.glo 19) (ok__law_cell_at (P := P) (w := w) (base := base) F).kp hr takes0 (sa_w (sa_ev (s := true) (sa := true) (sb := true) (se_use (s := true) 0) (sa_ev (s := true) (sa := true) (sb := true) (se_int (s := true)) (sa_nil))))) (se_idx (s := true) (sa := true) (sb := true) (se_var (s := true) 8) (se_int (s := true)))) (sa_nil)))) (sa_nil)))))) (hN := nd__law_start) | exact ss_setLc (sa := true) (sb := true) (sc := false) (own := [("one", 8)]) rfl nd__law_start rfl rfl rfl (si_any (s := true) (se_use (s := true) 6)) (blk_ok (by kernel_rfl)) (fun _ _ _ _ _ => pgT_nm 8 nd__law_start) (fun _ _ _ _ _ => pts_yes) (fun _ _ _ _ _ => se_make .n_Due 0 (F.mkr 36) ((ok_DueUU_initUU F).callee (k := 5) (k' := 5) (dfl := []) 0) (F.glo 37) hr takes0 (sa_ev (s := false) (sa := true) (sb := false) (se_use (s := true) 3) (sa_ev (s := false) (sa := true) (sb := false) (se_idx (s := true) (sa := true) (sb := true) (se_var (s := true) 8) (se_int (s := true))) (sa_ev (s := false) (sa := false) (sb := true) (se_call ((ok__law_ask F).callee (k := 4) (k' := 6) (dfl := []) 0) (F.glo 35) (ok__law_ask (P := P) (w := w) (base := base) F).kp hr takes0 (sa_ev (s := false) (sa := true) (sb := false) (se_use (s := true) 8) (sa_ev (s := false) (sa := false) (sb := true) (se_op (s := false) (sa := false) (sb := true) op_addA ok_add (se_call ((ok__law_cell_at F).callee (k := 1) (k' := 6) (dfl := []) 0) (F.glo 19) (ok__law_cell_at (P := P) (w := w) (base := base) F).kp hr takes0 (sa_w (sa_ev (s := true) (sa := true) (sb := true) (se_use (s := true) 0) (sa_ev (s := true) (sa := true) (sb := true) (se_int (s := true)) (sa_nil))))) (se_idx (s := true) (sa := true) (sb := true) (se_var (s := true) 8) (se_int (s := true)))) (sa_nil)))) (sa_nil)))))) (sb_one (ss_ret (s := true) (se_tup (s := true) (sa_ev (s := true) (sa := true) (sb := true) (se_use (s := true) 2) (sa_ev (s := true) (sa := true) (sb := true) (se_use (s := true) 3) (sa_ev (s := true) (sa := true) (sb := true) (se_use (s := true) 4) (sa_ev (s := true) (sa := true) (sb := true) (se_use (s := true) 5) (sa_ev (s := true) (sa := true) (sb := true) (se_use (s := true) 6) (sa_ev (s := true) (sa := true) (sb := true) (se_use (s := true) 7) (sa_nil)))))))))))))))
theorem ok__law_start (F : Fx fa ck fn K mg) : DefOk P w K mg base 7 (He.fAd K ("_law_start", none)) 2 [] F__law_start := by
  obtain ⟨fd, Fd⟩ := F.def_ 39 (d := d__law_start) rfl
  exact def_law (fc := c__law_start) Fd sc__law_start rfl rfl rfl rfl (bd0 rfl rfl Fd fun _ _ _ _ _ _ us hl => match us, hl with | [_, _], _ => rfl) fun cdv A outer s H E hr => sb__law_start F cdv A outer s H E hr
theorem nd_clash : (["one", "other"] : List Str).Nodup := by decide +kernel
theorem sc_clash : FnScope ["one", "other"] ["one", "other"] d_clash.scope := ⟨rfl, rfl, rfl, nd_clash, rfl, by decide +kernel, by decide +kernel⟩
theorem sb_clash (F : Fx fa ck fn K mg) (cdv : Value) (A : Around) (outer : List Env) (s : Shared) (H : Hp) (E : XK) (hr : Room 0 (A.deeper (envOfC d_clash.qual d_clash.scope s.heap.objs.size (He.fAd K d_clash.at_) cdv))) :
    SB (cxOf (L2.CX P w) P w K mg base ["one", "other"] d_clash.qual d_clash.scope (He.fAd K d_clash.at_) cdv A outer s H E) (fun cls d _ H => E cls d H) (ioIx c_clash.io) d_clash.body c_clash.body := by
  have tk : Takes (cxOf (L2.CX P w) P w K mg base ["one", "other"] d_clash.qual d_clash.scope (He.fAd K d_clash.at_) cdv A outer s H E) (fun cls d _ H => E cls d H) := takes_of rfl rfl rfl rfl
  exact sb_cons (ss_if (s := true) (SW.st (sw_and (s := true) (sa := true) (sb := true) (st_cmp (s := true) (sa := true) (sb := true) (op_neD hr.units) ok_neD (se_fld (s := true) (FO F) .n_kind (se_var (s := true) 0)) (se_str (s := true))) (sw_and1 (s := true) (st_cmp (s := true) (sa := true) (sb := true) (op_neD hr.units) ok_neD (se_fld (s := true) (FO F) .n_kind (se_var (s := true) 1)) (se_str (s := true)))))) (sb_one (ss_ret (s := true) (se_bl (s := true)))) (sb_nil)) (sb_one (ss_ret (s := true) (se_and (s := true) (sa := true) (sb := true) (se_cmp (s := true) (sa := true) (sb := true) op_lt ok_lt (se_fld (s := true) (FO F) .n_first (se_var (s := true) 0)) (se_op (s := true) (sa := true) (sb := true) op_addA ok_add (se_fld (s := true) (FO F) .n_first (se_var (s := true) 1)) (se_fld (s := true) (FO F) .n_many (se_var (s := true) 1)))) (se_one (se_cmp (s := true) (sa := true) (sb := true) op_lt ok_lt (se_fld (s := true) (FO F) .n_first (se_var (s := true) 1)) (se_op (s := true) (sa := true) (sb := true) op_addA ok_add (se_fld (s := true) (FO F) .n_first (se_var (s := true) 0)) (se_fld (s := true) (FO F) .n_many (se_var (s := true) 0))))))))
theorem ok_clash (F : Fx fa ck fn K mg) : DefOk P w K mg base 1 (He.fAd K ("clash", none)) 2 [] F_clash := by
  obtain ⟨fd, Fd⟩ := F.def_ 5 (d := d_clash) rfl
  exact def_law (fc := c_clash) Fd sc_clash rfl rfl rfl rfl (bd0 rfl rfl Fd fun _ _ _ _ _ _ us hl => match us, hl with | [_, _], _ => rfl) fun cdv A outer s H E hr => sb_clash F cdv A outer s H E hr
theorem nd_keeps_behind : (["due", "other"] : List Str).Nodup := by decide +kernel
theorem sc_keeps_behind : FnScope ["due", "other"] ["due", "other"] d_keeps_behind.scope := ⟨rfl, rfl, rfl, nd_keeps_behind, rfl, by decide +kernel, by decide +kernel⟩
theorem sb_keeps_behind (F : Fx fa ck fn K mg) (cdv : Value) (A : Around) (outer : List Env) (s : Shared) (H : Hp) (E : XK) (hr : Room 1 (A.deeper (envOfC d_keeps_behind.qual d_keeps_behind.scope s.heap.objs.size (He.fAd K d_keeps_behind.at_) cdv))) :
    SB (cxOf (L2.CX P w) P w K mg base ["due", "other"] d_keeps_behind.qual d_keeps_behind.scope (He.fAd K d_keeps_behind.at_) cdv A outer s H E) (fun cls d _ H => E cls d H) (ioIx c_keeps_behind.io) d_keeps_behind.body c_keeps_behind.body := by
  have tk : Takes (cxOf (L2.CX P w) P w K mg base ["due", "other"] d_keeps_behind.qual d_keeps_behind.scope (He.fAd K d_keeps_behind.at_) cdv A outer s H E) (fun cls d _ H => E cls d H) := takes_of rfl rfl rfl rfl
  exact sb_cons (ss_if (s := true) (st_cmp (s := true) (sa := true) (sb := true) op_ge ok_ge (se_fld (s := true) (FO F) .n_number (se_var (s := true) 1)) (se_fld (s := true) (FO F) .n_number (se_var (s := true) 0))) (sb_one (ss_ret (s := true) (se_bl (s := true)))) (sb_nil)) (sb_one (ss_ret (s := false) (se_or (s := false) (sa := true) (sb := false) (se_cmp (s := true) (sa := true) (sb := true) op_in_seq ok_inS (se_fld (s := true) (FO F) .n_number (se_var (s := true) 1)) (se_fld (s := true) (FO F) .n_behind (se_fld (s := true) (FO F) .n_ask (se_var (s := true) 0)))) (se_one (se_call ((ok_clash F).callee (k := 1) (k' := 1) (dfl := []) 0) (F.glo 38) (ok_clash (P := P) (w := w) (base := base) F).kp hr tk (sa_w (sa_ev (s := true) (sa := true) (sb := true) (se_fld (s := true) (FO F) .n_ask (se_var (s := true) 0)) (sa_ev (s := true) (sa := true) (sb := true) (se_fld (s := true) (FO F) .n_ask (se_var (s := true) 1)) (sa_nil)))))))))
theorem ok_keeps_behind (F : Fx fa ck fn K mg) : DefOk P w K mg base 2 (He.fAd K ("keeps_behind", none)) 2 [] F_keeps_behind := by
  obtain ⟨fd, Fd⟩ := F.def_ 9 (d := d_keeps_behind) rfl
  exact def_law (fc := c_keeps_behind) Fd sc_keeps_behind rfl rfl rfl rfl (bd0 rfl rfl Fd fun _ _ _ _ _ _ us hl => match us, hl with | [_, _], _ => rfl) fun cdv A outer s H E hr => sb_keeps_behind F cdv A outer s H E hr
theorem nd_may_be_next : (["dues", "found", "due", "other"] : List Str).Nodup := by decide +kernel
theorem sc_may_be_next : FnScope ["dues", "found", "due", "other"] ["dues"] d_may_be_next.scope := ⟨rfl, rfl, rfl, nd_may_be_next, rfl, by decide +kernel, by decide +kernel⟩
theorem sb_may_be_next (F : Fx fa ck fn K mg) (cdv : Value) (A : Around) (outer : List Env) (s : Shared) (H : Hp) (E : XK) (hr : Room 2 (A.deeper (envOfC d_may_be_next.qual d_may_be_next.scope s.heap.objs.size (He.fAd K d_may_be_next.at_) cdv))) :
    SB (cxOf (L2.CX P w) P w K mg base ["dues", "found", "due", "other"] d_may_be_next.qual d_may_be_next.scope (He.fAd K d_may_be_next.at_) cdv A outer s H E) (fun cls d _ H => E cls d H) (ioIx c_may_be_next.io) d_may_be_next.body c_may_be_next.body := by
  have tk : Takes (cxOf (L2.CX P w) P w K mg base ["dues", "found", "due", "other"] d_may_be_next.qual d_may_be_next.scope (He.fAd K d_may_be_next.at_) cdv A outer s H E) (fun cls d _ H => E cls d H) := takes_of rfl rfl rfl rfl
  exact sb_cons (ss_set (s := true) 1 (se_lst (s := true) (sa_nil)) (hN := nd_may_be_next)) (sb_cons (ss_for (s := true) (t := .nm 2) (passes_of rfl) rfl (si_any (s := true) (se_use (s := true) 0)) (pgT_nm 2 nd_may_be_next) (sb_one (ss_if (s := false) (st_cmp (s := false) (sa := false) (sb := true) (op_eqN hr.units) ok_eqN (se_lc (s := false) (sa := true) (sb := false) (sc := true) (own := [("other", 3)]) rfl nd_may_be_next (si_any (s := true) (se_use (s := true) 0)) (blk_ok (by kernel_rfl)) (fun _ _ _ _ _ => pgT_nm 3 nd_may_be_next) (fun _ _ _ _ _ => pts_one (st_val (s := false) (se_call ((ok_keeps_behind F).callee (k := 2) (k' := 2) (dfl := []) 0) (F.glo 39) (ok_keeps_behind (P := P) (w := w) (base := base) F).kp hr takes0 (sa_w (sa_ev (s := true) (sa := true) (sb := true) (se_use (s := true) 2) (sa_ev (s := true) (sa := true) (sb := true) (se_use (s := true) 3) (sa_nil))))))) (fun _ _ _ _ _ => se_use (s := true) 3)) (se_lst (s := true) (sa_nil))) (sb_one (ss_append (sy := true) (sl_var 1) (se_fld (s := true) (FO F) .n_number (se_var (s := true) 2)))) (sb_nil)))) (sb_one (ss_ret (s := true) (se_mv (s := true) 1))))
theorem ok_may_be_next (F : Fx fa ck fn K mg) : DefOk P w K mg base 3 (He.fAd K ("may_be_next", none)) 1 [] F_may_be_next := by
  obtain ⟨fd, Fd⟩ := F.def_ 10 (d := d_may_be_next) rfl
  exact def_law (fc := c_may_be_next) Fd sc_may_be_next rfl rfl rfl rfl (bd0 rfl rfl Fd fun _ _ _ _ _ _ us hl => match us, hl with | [_], _ => rfl) fun cdv A outer s H E hr => sb_may_be_next F cdv A outer s H E hr
theorem nd__law_keeps : (["one", "other"] : List Str).Nodup := by decide +kernel
theorem sc__law_keeps : FnScope ["one", "other"] ["one", "other"] d__law_keeps.scope := ⟨rfl, rfl, rfl, nd__law_keeps, rfl, by decide +kernel, by decide +kernel⟩
theorem sb__law_keeps (F : Fx fa ck fn K mg) (cdv : Value) (A : Around) (outer : List Env) (s : Shared) (H : Hp) (E : XK) (hr : Room 0 (A.deeper (envOfC d__law_keeps.qual d__law_keeps.scope s.heap.objs.size (He.fAd K d__law_keeps.at_) cdv))) :
    SB (cxOf (L2.CX P w) P w K mg base ["one", "other"] d__law_keeps.qual d__law_keeps.scope (He.fAd K d__law_keeps.at_) cdv A outer s H E) (fun cls d _ H => E cls d H) (ioIx c__law_keeps.io) d__law_keeps.body c__law_keeps.body := by
  have tk : Takes (cxOf (L2.CX P w) P w K mg base ["one", "other"] d__law_keeps.qual d__law_keeps.scope (He.fAd K d__law_keeps.at_) cdv A outer s H E) (fun cls d _ H => E cls d H) := takes_of rfl rfl rfl rfl
  exact sb_cons (ss_if (s := true) (st_cmp (s := true) (sa := true) (sb := true) op_ge ok_ge (se_idx (s := true) (sa := true) (sb := true) (se_var (s := true) 1) (se_int (s := true))) (se_idx (s := true) (sa := true) (sb := true) (se_var (s := true) 0) (se_int (s := true)))) (sb_one (ss_ret (s := true) (se_bl (s := true)))) (sb_nil)) (sb_cons (ss_if (s := true) (st_cmp (s := true) (sa := true) (sb := true) op_in_seq ok_inS (se_idx (s := true) (sa := true) (sb := true) (se_var (s := true) 1) (se_int (s := true))) (se_idx (s := true) (sa := true) (sb := true) (se_var (s := true) 0) (se_int (s := true)))) (sb_one (ss_ret (s := true) (se_bl (s := true)))) (sb_nil)) (sb_one (ss_ret (s := true) (se_and (s := true) (sa := true) (sb := true) (se_or (s := true) (sa := true) (sb := true) (se_idx (s := true) (sa := true) (sb := true) (se_var (s := true) 0) (se_int (s := true))) (se_one (se_idx (s := true) (sa := true) (sb := true) (se_var (s := true) 1) (se_int (s := true))))) (se_and (s := true) (sa := true) (sb := true) (se_cmp (s := true) (sa := true) (sb := true) op_lt ok_lt (se_idx (s := true) (sa := true) (sb := true) (se_var (s := true) 0) (se_int (s := true))) (se_op (s := true) (sa := true) (sb := true) op_addA ok_add (se_idx (s := true) (sa := true) (sb := true) (se_var (s := true) 1) (se_int (s := true))) (se_idx (s := true) (sa := true) (sb := true) (se_var (s := true) 1) (se_int (s := true))))) (se_one (se_cmp (s := true) (sa := true) (sb := true) op_lt ok_lt (se_idx (s := true) (sa := true) (sb := true) (se_var (s := true) 1) (se_int (s := true))) (se_op (s := true) (sa := true) (sb := true) op_addA ok_add (se_idx (s := true) (sa := true) (sb := true) (se_var (s := true) 0) (se_int (s := true))) (se_idx (s := true) (sa := true) (sb := true) (se_var (s := true) 0) (se_int (s := true)))))))))))
theorem ok__law_keeps (F : Fx fa ck fn K mg) : DefOk P w K mg base 1 (He.fAd K ("_law_keeps", none)) 2 [] F__law_keeps := by
  obtain ⟨fd, Fd⟩ := F.def_ 36 (d := d__law_keeps) rfl
  exact def_law (fc := c__law_keeps) Fd sc__law_keeps rfl rfl rfl rfl (bd0 rfl rfl Fd fun _ _ _ _ _ _ us hl => match us, hl with | [_, _], _ => rfl) fun cdv A outer s H E hr => sb__law_keeps F cdv A outer s H E hr
theorem nd__law_free_ones : (["known", "one", "other"] : List Str).Nodup := by decide +kernel
theorem sc__law_free_ones : FnScope ["known", "one", "other"] ["known"] d__law_free_ones.scope := ⟨rfl, rfl, rfl, nd__law_free_ones, rfl, by decide +kernel, by decide +kernel⟩
theorem sb__law_free_ones (F : Fx fa ck fn K mg) (cdv : Value) (A : Around) (outer : List Env) (s : Shared) (H : Hp) (E : XK) (hr : Room 1 (A.deeper (envOfC d__law_free_ones.qual d__law_free_ones.scope s.heap.objs.size (He.fAd K d__law_free_ones.at_) cdv))) :
    SB (cxOf (L2.CX P w) P w K mg base ["known", "one", "other"] d__law_free_ones.qual d__law_free_ones.scope (He.fAd K d__law_free_ones.at_) cdv A outer s H E) (fun cls d _ H => E cls d H) (ioIx c__law_free_ones.io) d__law_free_ones.body c__law_free_ones.body := by
  have tk : Takes (cxOf (L2.CX P w) P w K mg base ["known", "one", "other"] d__law_free_ones.qual d__law_free_ones.scope (He.fAd K d__law_free_ones.at_) cdv A outer s H E) (fun cls d _ H => E cls d H) := takes_of rfl rfl rfl rfl
  exact sb_one (ss_ret (s := false) (se_lc (s := false) (sa := true) (sb := false) (sc := true) (own := [("one", 1)]) rfl nd__law_free_ones (si_any (s := true) (se_use (s := true) 0)) (blk_ok (by kernel_rfl)) (fun _ _ _ _ _ => pgT_nm 1 nd__law_free_ones) (fun _ _ _ _ _ => pts_one (st_cmp (s := false) (sa := false) (sb := true) (op_eqN hr.units) ok_eqN (se_lc (s := false) (sa := true) (sb := false) (sc := true) (own := [("other", 2)]) rfl nd__law_free_ones (si_any (s := true) (se_use (s := true) 0)) (blk_ok (by kernel_rfl)) (fun _ _ _ _ _ => pgT_nm 2 nd__law_free_ones) (fun _ _ _ _ _ => pts_one (st_val (s := false) (se_call ((ok__law_keeps F).callee (k := 1) (k' := 1) (dfl := []) 0) (F.glo 40) (ok__law_keeps (P := P) (w := w) (base := base) F).kp hr takes0 (sa_w (sa_ev (s := true) (sa := true) (sb := true) (se_use (s := true) 1) (sa_ev (s := true) (sa := true) (sb := true) (se_use (s := true) 2) (sa_nil))))))) (fun _ _ _ _ _ => se_use (s := true) 2)) (se_lst (s := true) (sa_nil)))) (fun _ _ _ _ _ => se_idx (s := true) (sa := true) (sb := true) (se_var (s := true) 1) (se_int (s := true)))))
theorem ok__law_free_ones (F : Fx fa ck fn K mg) : DefOk P w K mg base 2 (He.fAd K ("_law_free_ones", none)) 1 [] F__law_free_ones := by
  obtain ⟨fd, Fd⟩ := F.def_ 37 (d := d__law_free_ones) rfl
  exact def_law (fc := c__law_free_ones) Fd sc__law_free_ones rfl rfl rfl rfl (bd0 rfl rfl Fd fun _ _ _ _ _ _ us hl => match us, hl with | [_], _ => rfl) fun cdv A outer s H E hr => sb__law_free_ones F cdv A outer s H E hr
theorem nd__law_whole : (["found"] : List Str).Nodup := by decide +kernel
theorem sc__law_whole : FnScope ["found"] ["found"] d__law_whole.scope := ⟨rfl, rfl, rfl, nd__law_whole, rfl, by decide +kernel, by decide +kernel⟩
theorem sb__law_whole (F : Fx fa ck fn K mg) (cdv : Value) (A : Around) (outer : List Env) (s : Shared) (H : Hp) (E : XK) (hr : Room 0 (A.deeper (envOfC d__law_whole.qual d__law_whole.scope s.heap.objs.size (He.fAd K d__law_whole.at_) cdv))) :
    SB (cxOf (L2.CX P w) P w K mg base ["found"] d__law_whole.qual d__law_whole.scope (He.fAd K d__law_whole.at_) cdv A outer s H E) (fun cls d _ H => E cls d H) (ioIx c__law_whole.io) d__law_whole.body c__law_whole.body := by
  have tk : Takes (cxOf (L2.CX P w) P w K mg base ["found"] d__law_whole.qual d__law_whole.scope (He.fAd K d__law_whole.at_) cdv A outer s H E) (fun cls d _ H => E cls d H) := takes_of rfl rfl rfl rfl
  exact sb_one (ss_ret (s := true) (se_and (s := true) (sa := true) (sb := true) (se_isi (s := true) (sa := true) (T := "int") (se_var (s := true) 0) (F.free 41) (F.free 20) bt_int) (se_one (se_not (s := true) (se_isi (s := true) (sa := true) (T := "bool") (se_var (s := true) 0) (F.free 41) (F.free 42) bt_bool)))))
theorem ok__law_whole (F : Fx fa ck fn K mg) : DefOk P w K mg base 1 (He.fAd K ("_law_whole", none)) 1 [] F__law_whole := by
  obtain ⟨fd, Fd⟩ := F.def_ 38 (d := d__law_whole) rfl
  exact def_law (fc := c__law_whole) Fd sc__law_whole rfl rfl rfl rfl (bd0 rfl rfl Fd fun _ _ _ _ _ _ us hl => match us, hl with | [_], _ => rfl) fun cdv A outer s H E hr => sb__law_whole F cdv A outer s H E hr
theorem nd_law : (["script", "spec", "plate", "ring", "beat", "known", "dues", "k", "some", "numbers", "found", "due", "one"] : List Str).Nodup := by decide +kernel
theorem sc_law : FnScope ["script", "spec", "plate", "ring", "beat", "known", "dues", "k", "some", "numbers", "found", "due", "one"] ["script"] d_law.scope := ⟨rfl, rfl, rfl, nd_law, rfl, by decide +kernel, by decide +kernel⟩
theorem sb_law (F : Fx fa ck fn K mg) (cdv : Value) (A : Around) (outer : List Env) (s : Shared) (H : Hp) (E : XK) (hr : Room 7 (A.deeper (envOfC d_law.qual d_law.scope s.heap.objs.size (He.fAd K d_law.at_) cdv))) :
    SB (cxOf (L2.CX P w) P w K mg base ["script", "spec", "plate", "ring", "beat", "known", "dues", "k", "some", "numbers", "found", "due", "one"] d_law.qual d_law.scope (He.fAd K d_law.at_) cdv A outer s H E) (fun cls d _ H => E cls d H) (ioIx c_law.io) d_law.body c_law.body := by
  have tk : Takes (cxOf (L2.CX P w) P w K mg base ["script", "spec", "plate", "ring", "beat", "known", "dues", "k", "some", "numbers", "found", "due", "one"] d_law.qual d_law.scope (He.fAd K d_law.at_) cdv A outer s H E) (fun cls d _ H => E cls d H) := takes_of rfl rfl rfl rfl
  exact sb_cons (ss_tup (s := false) [1, 2, 3, 4, 5, 6] rfl (se_call ((ok__law_start F).callee (k := 7) (k' := 7) (dfl := []) 0) (F.glo 43) (ok__law_start (P := P) (w := w) (base := base) F).kp hr tk (sa_w (sa_ev (s := true) (sa := true) (sb := true) (se_use (s := true) 0) (sa_ev (s := true) (sa := true) (sb := true) (se_int (s := true)) (sa_nil))))) (pgs_cons (pg_nm 1 nd_law) (pgs_cons (pg_nm 2 nd_law) (pgs_cons (pg_nm 3 nd_law) (pgs_cons (pg_nm 4 nd_law) (pgs_cons (pg_nm 5 nd_law) (pgs_cons (pg_nm 6 nd_law) (pgs_nil)))))))) (sb_cons (ss_for (s := true) (t := .nm 7) (passes_of rfl) rfl (si_range1 (s := true) (se_op (s := true) (sa := true) (sb := true) op_addA ok_add (se_b1 (s := true) (sa := true) call_lenA ok_len (se_var (s := true) 5) (F.free 3) bt_len) (se_int (s := true))) (F.free 0)) (pgT_nm 7 nd_law) (sb_cons (ss_set (s := true) 8 (se_op (s := true) (sa := true) (sb := true) op_addA ok_add (se_slc (s := true) (sa := true) (se_var (s := true) 6) so_none (so_some (se_var (s := true) 7))) (se_slc (s := true) (sa := true) (se_var (s := true) 6) (so_some (se_op (s := true) (sa := true) (sb := true) op_addA ok_add (se_var (s := true) 7) (se_int (s := true)))) so_none)) (hN := nd_law)) (sb_cons (by first | exact ss_set (s := true) 9 (se_lc (s := true) (sa := true) (sb := true) (sc := true) (own := [("one", 12)]) rfl nd_law (si_any (s := true) (se_op (s := true) (sa := true) (sb := true) op_addA ok_add (se_slc (s := true) (sa := true) (se_var (s := true) 5) so_none (so_some (se_var (s := true) 7))) (se_slc (s := true) (sa := true) (se_var (s := true) 5) (so_some (se_op (s := true) (sa := true) (sb := true) op_addA ok_add (se_var (s := true) 7) (se_int (s := true)))) so_none))) (blk_ok (by kernel_rfl)) (fun _ _ _ _ _ => pgT_nm 12 nd_law) (fun _ _ _ _ _ => pts_yes) (fun _ _ _ _ _ => se_idx (s := true) (sa := true) (sb := true) (se_var (s := true) 12) (se_int (s := true)))) (hN := nd_law) | exact ss_setLc (sa := true) (sb := true) (sc := true) (own := [("one", 12)]) rfl nd_law rfl rfl rfl (si_any (s := true) (se_op (s := true) (sa := true) (sb := true) op_addA ok_add (se_slc (s := true) (sa := true) (se_var (s := true) 5) so_none (so_some (se_var (s := true) 7))) (se_slc (s := true) (sa := true) (se_var (s := true) 5) (so_some (se_op (s := true) (sa := true) (sb := true) op_addA ok_add (se_var (s := true) 7) (se_int (s := true)))) so_none))) (blk_ok (by kernel_rfl)) (fun _ _ _ _ _ => pgT_nm 12 nd_law) (fun _ _ _ _ _ => pts_yes) (fun _ _ _ _ _ => se_idx (s := true) (sa := true) (sb := true) (se_var (s := true) 12) (se_int (s := true)))) (sb_cons (ss_set (s := false) 10 (se_call ((ok_may_be_next F).callee (k := 3) (k' := 7) (dfl := []) 0) (F.glo 44) (ok_may_be_next (P := P) (w := w) (base := base) F).kp hr tk (sa_w (sa_ev (s := true) (sa := true) (sb := true) (se_use (s := true) 8) (sa_nil)))) (hN := nd_law)) (sb_cons (ss_set (s := false) 11 (se_call ((ok__law_free_ones F).callee (k := 2) (k' := 7) (dfl := []) 0) (F.glo 45) (ok__law_free_ones (P := P) (w := w) (base := base) F).kp hr tk (sa_w (sa_ev (s := true) (sa := true) (sb := true) (se_op (s := true) (sa := true) (sb := true) op_addA ok_add (se_slc (s := true) (sa := true) (se_var (s := true) 5) so_none (so_some (se_var (s := true) 7))) (se_slc (s := true) (sa := true) (se_var (s := true) 5) (so_some (se_op (s := true) (sa := true) (sb := true) op_addA ok_add (se_var (s := true) 7) (se_int (s := true)))) so_none)) (sa_nil)))) (hN := nd_law)) (sb_cons (ss_if (s := true) (SW.st (sw_or (s := true) (sa := true) (sb := true) (st_not (s := true) (st_val (s := true) (se_isi (s := true) (sa := true) (T := "list") (se_var (s := true) 10) (F.free 41) (F.free 9) bt_list))) (sw_or1 (s := true) (st_cmp (s := true) (sa := true) (sb := true) (op_neD hr.units) ok_neD (se_var (s := true) 10) (se_var (s := true) 11))))) (sb_one (ss_ret (s := true) (se_bl (s := true)))) (sb_nil)) (sb_cons (ss_if (s := false) (SW.st (sw_or (s := false) (sa := false) (sb := true) (st_cmp (s := false) (sa := false) (sb := true) (op_neN hr.units) ok_eqN (se_lcB (sb := false) (sc := true) (own := [("one", 12)]) 10 rfl nd_law (ok := blk_ok (by kernel_rfl)) (hg := fun _ _ _ _ _ => pgT_nm 12 nd_law) (ht := fun _ _ _ _ _ => pts_one (st_not (s := false) (st_val (s := false) (se_call ((ok__law_whole F).callee (k := 1) (k' := 7) (dfl := []) 0) (F.glo 46) (ok__law_whole (P := P) (w := w) (base := base) F).kp hr takes0 (sa_w (sa_ev (s := true) (sa := true) (sb := true) (se_use (s := true) 12) (sa_nil))))))) (he := fun _ _ _ _ _ => se_use (s := true) 12)) (se_lst (s := true) (sa_nil))) (sw_or1 (s := true) (st_cmp (s := true) (sa := true) (sb := true) (op_neD hr.units) ok_neD (se_lc (s := true) (sa := true) (sb := true) (sc := true) (own := [("one", 12)]) rfl nd_law (si_any (s := true) (se_use (s := true) 8)) (blk_ok (by kernel_rfl)) (fun _ _ _ _ _ => pgT_nm 12 nd_law) (fun _ _ _ _ _ => pts_yes) (fun _ _ _ _ _ => se_fld (s := true) (FO F) .n_number (se_var (s := true) 12))) (se_var (s := true) 9))))) (sb_one (ss_ret (s := true) (se_bl (s := true)))) (sb_nil)) (sb_one (ss_append (sy := true) (sl_var 10) (se_int (s := true))))))))))) (sb_cons (ss_set (s := false) 10 (se_call ((ok_may_be_next F).callee (k := 3) (k' := 7) (dfl := []) 0) (F.glo 44) (ok_may_be_next (P := P) (w := w) (base := base) F).kp hr tk (sa_w (sa_ev (s := true) (sa := true) (sb := true) (se_t1 (s := true) (sa := true) call_list_of ok_list (se_var (s := true) 6) (F.free 9) bt_list) (sa_nil)))) (hN := nd_law)) (sb_one (ss_ret (s := false) (se_and (s := false) (sa := true) (sb := false) (se_isi (s := true) (sa := true) (T := "list") (se_var (s := true) 10) (F.free 41) (F.free 9) bt_list) (se_one (se_cmp (s := false) (sa := true) (sb := false) (op_eqD hr.units) ok_eqD (se_use (s := true) 10) (se_call ((ok__law_free_ones F).callee (k := 2) (k' := 7) (dfl := []) 0) (F.glo 45) (ok__law_free_ones (P := P) (w := w) (base := base) F).kp hr tk (sa_w (sa_ev (s := true) (sa := true) (sb := true) (se_use (s := true) 5) (sa_nil)))))))))))
theorem ok_law (F : Fx fa ck fn K mg) : DefOk P w K mg base 8 (He.fAd K ("law", none)) 1 [] F_law := by
  obtain ⟨fd, Fd⟩ := F.def_ 40 (d := d_law) rfl
  exact def_law (fc := c_law) Fd sc_law rfl rfl rfl rfl (bd0 rfl rfl Fd fun _ _ _ _ _ _ us hl => match us, hl with | [_], _ => rfl) fun cdv A outer s H E hr => sb_law F cdv A outer s H E hr
end Pd
end
section
namespace Pd
open PySem PySem.Spec PyProof.Rows L2
abbrev Rw : PySem.W.OpenRow := PySem.W.OpenLaw.row PySem.Challenge.rw_armswing_k62_may_be_next
abbrev hk : PySem.W.Hook := hookC 5 fa ck fn
def ob (s : PySem.W.SharedT) : He.AlD := obsCG 5 fa ck fn (HandSHeadRun.getT s)
theorem ob_eq (s : PySem.W.SharedT) : ob s = hk.obs s.abs := obsCG_eq (HandSHeadRun.getT_eq s)
def loose0 : List Str := [Str.ofString "_wall", Str.ofString "ArmError", Str.ofString "NoPlate", Str.ofString "NoCell", Str.ofString "NoSpare", Str.ofString "NoAsk", Str.ofString "Ask", Str.ofString "check", Str.ofString "with_rest", Str.ofString "reading", Str.ofString "writing", Str.ofString "clash", Str.ofString "stretch", Str.ofString "numbered_stretch", Str.ofString "Due", Str.ofString "keeps_behind", Str.ofString "may_be_next", Str.ofString "MOST", Str.ofString "ring_counts", Str.ofString "check_lap", Str.ofString "check_swing", Str.ofString "Plate", Str.ofString "Mended", Str.ofString "_law_cell_at", Str.ofString "_law_stream", Str.ofString "_law_swing", Str.ofString "_law_spec", Str.ofString "_law_plate", Str.ofString "_law_walk", Str.ofString "_law_behind_way", Str.ofString "_law_beside", Str.ofString "_law_tight", Str.ofString "_law_known", Str.ofString "_law_ask", Str.ofString "_law_keeps", Str.ofString "_law_free_ones", Str.ofString "_law_whole", Str.ofString "_law_start"]
def loose : List Str := loose0
theorem run (w : World) : HandSHeadRun.RunEq Rw (PySem.W.view Rw.prog [45]) hk ob 3800 loose w := by
  intro os
  kernel_rfl
end Pd
open PySem PySem.W PySem.Calls PyProof.Rows Pd
theorem PySem.Challenge.cw_armswing_k62_may_be_next_holds : PySem.Challenge.rw_armswing_k62_may_be_next.Holds := by
  w_on; o_law
  refine HandSHeadRun.head_any (r := OpenLaw.row PySem.Challenge.rw_armswing_k62_may_be_next) (q := view (OpenLaw.row PySem.Challenge.rw_armswing_k62_may_be_next).prog [45]) (H := Pd.hk) (ob := Pd.ob) (M := 3800) (loose := Pd.loose) (d := HandSHeadRun.topDef (OpenLaw.row PySem.Challenge.rw_armswing_k62_may_be_next).prog 45) (kwd := []) Pd.ob_eq
    (by kernel_rfl) (fun s => by kernel_rfl) Pd.run (by kernel_rfl) (by kernel_rfl) (by kernel_rfl) (by rfl) (by first | assumption | decide +kernel) (by decide +kernel) ⟨rfl, rfl, rfl, rfl, rfl, by decide +kernel⟩ ?hw ?hc
  case hw => w_witness2
  case hc =>
    refine Pd.walk_end (l := PySem.Challenge.rw_armswing_k62_may_be_next) (n := 63) (k := 8) (x := "script") rfl (by decide) (by kernel_rfl) ⟨rfl, by decide, by decide⟩ ?F
    intro w mg fa0 h Y G hmg0
    obtain ⟨K, KX, c⟩ := Y
    have hmg : mg ("law" : PySem.Str) = some (.ref fa0) := by
      have e : (HandSHeadRun.topDef (OpenLaw.row PySem.Challenge.rw_armswing_k62_may_be_next).prog 45).name = ("law" : PySem.Str) := by kernel_rfl
      rw [← e]
      exact hmg0
    exact Pd.law_end (k := 7) (d := Pd.d_law) (fc := Pd.c_law) (i := 40) (j := 88) KX G c hmg rfl rfl rfl rfl Pd.sc_law rfl rfl rfl (fun _ _ _ _ _ _ us hl => match us, hl with | [_], _ => rfl) (fun base F cdv A outer s H E hr => Pd.sb_law F cdv A outer s H E hr) Pd.law_true
end
