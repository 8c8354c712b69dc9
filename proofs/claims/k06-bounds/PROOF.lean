import PyProof.Rows.All
import HandS.Base
import HandS.Call
import HandS.List
import HandS.Comp
import HandS.Exc
import HandS.Ends
import HandS.Dict
import HandS.HeadHook1
import PyProof.NeKinds
import HandS.Text
import HandS.TupAny
import HandS.Wide
import HandS.IsInst
import HandS.StrMore
import PyProof.ReprRoads
import PyProof.CallFns
import HandS.Strs
import HandS.SetFor
import HandS.TupLen
import HandS.DictTup
import HandS.Replace
import KE.KDictPairs
import HandS.ListItems
import HandS.Conv
import HandS.ExcField
import HandS.More
import HandS.ExcIs
import HandS.ExcInit
import KE.KExcSuper
import HandS.CallSlots
import HandS.CallLocal
import HandS.Iter
import HandS.Zip
import HandS.CallRecv
import HandS.Style
import HandS.Property
import HandS.Star
import HandS.DictComp
import HandS.IterVal
import KE.KOwnIter
import HandS.Defaults
import KE.KUnpackStar
import HandS.Small
import HandS.HeadHook3
import HandS.Words
import HandS.HeadHook2
import HandS.HeadEnd
import HandS.Head0
import HandS.Head1
import HandS.Head2
import PySem.Challenge.RW_handkept_k06_bounds_of_programs
set_option Elab.async false
set_option linter.all false
set_option maxRecDepth 100000
namespace Mi
open PySem
/-- the names, by their numbers -/
def nmR0 : List String := ["AHEAD", "AHEAD_applied", "AHEAD_touched", "ALWAYS", "ALWAYS_PARTS", "ALWAYS_PARTS_rowstays", "ALWAYS_PARTS_stays", "ASTRAY", "ASTRAY_edits", "ASTRAY_states", "Aim", "Asked", "BEFORE", "BEGIN", "BEHIND", "BEHIND_applied", "BEHIND_touched", "BELOW", "BETWEEN", "BLANK", "BLANK_lines", "BLANK_models", "BOTH", "BadEdits", "BadField", "BadLabel", "BadLine", "BadMarks", "BadModel", "BadNumber", "BadOffers", "BadOrder", "BadPrograms", "BadRule", "BadRules", "BadSheet", "BadText", "BadWay", "BadWish", "Block", "BlockReader", "CELL", "CELL_plans", "CELL_writing", "CHOICE", "CHOICE_PARTS", "CLOSE", "COLON", "COME", "COMES"]
def nmR1 : List String := ["COME_WORDS", "COME_classes", "COME_journals", "COME_marks", "COME_sheets", "COMMA", "COMMA_desk", "COMMA_texts", "Clash", "Classes", "DEEDS", "DEED_PARTS", "DEEPER", "DONE", "DOT", "Desk", "EDIT", "EDIT_PARTS", "ELSE", "END", "EQUAL", "EXCHANGE", "FEED", "FEED_lines", "FEED_marks", "FEED_models", "FEWEST", "FIELD", "FIGURES", "FIRST", "FIRST_finding", "FIRST_members", "FITS", "Frame", "Fresh", "GO", "GONE", "GONE_classes", "GONE_edits", "GONE_states", "GO_marks", "GO_sheets", "GO_walking", "Going", "HEAD", "HEAD_SIZE", "IF", "IF_plans", "IF_writing", "IN"]
def nmR2 : List String := ["INSTEAD", "IS", "KEPT", "KEPT_edits", "KEPT_states", "KEPT_stays", "KEY", "KEY_marks", "KEY_plans", "KEY_unwinding", "KEY_writing", "KIND", "Keeper", "KeptError", "LETTERS", "LETTERS_forms", "LETTERS_guesses", "LETTERS_unwinding", "LINE", "LOST", "LOST_edits", "LOST_states", "Line", "Lines", "MANY_WORTHS", "MEMBER_SIZE", "MEMBER_SIZE_members", "MEMBER_SIZE_same", "MEMBER_SIZE_touched", "MEMBER_SIZE_twins", "MODEL", "MOST", "MOST_CELLS", "MOST_DEPTH", "MOST_EDITS", "MOST_FIELDS", "MOST_FIGURES", "MOST_FRONT", "MOST_KINDS", "MOST_LETTERS", "MOST_MEMBERS", "MOST_NESTED", "MOST_OFFERS", "MOST_OTHERS", "MOST_PASSES", "MOST_PLACE", "MOST_PLACE_edits", "MOST_PLACE_marks", "MOST_PRICE", "MOST_SEEN"]
def nmR3 : List String := ["MOST_STATEMENTS", "MOST_TOKENS", "MOST_WORDS", "Marked", "NAME", "NONE", "NONE_PARTS", "NOTHING", "NOTHING_reading", "NOTHING_texts", "NoChange", "NotMade", "NothingToRedo", "NothingToUndo", "ONLY", "ONLY_finding", "ONLY_marks", "OPEN", "OPEN_members", "OPEN_plans", "ORDERS", "PAIR", "PAIR_bare", "PAIR_desk", "PAIR_edits", "PAIR_marks", "PAIR_members", "PAIR_sheets", "PAIR_texts", "PARTS", "PASS", "PAST", "PHASES", "PROGRAM", "Pass", "PassWriter", "Past", "Plan", "PlanReader", "Point", "Program", "REASON_PARTS", "RECORD_PARTS", "REF", "ROW_SIZE", "ROW_SIZE_bare", "ROW_SIZE_members", "ROW_SIZE_touched", "RULE", "RULES"]
def nmR4 : List String := ["RULE_PARTS", "RULE_WORDS", "Rows", "RunWriter", "SET", "SET_plans", "SET_writing", "SIDES", "SIGNS", "SKIP", "SLASH", "SLASH_desk", "SLASH_texts", "SORTS", "STATE_SIZE", "STAYS_WORDS", "STEP", "STILL", "STOP", "STRIKE", "STRIKE_applied", "STRIKE_texts", "SameSearch", "Scope", "Search", "Shape", "Statement", "StaysSearch", "TITLE", "TOP", "TOP_bare", "TOP_reading", "TOP_touched", "TOP_walking", "TRIPLE", "TRIPLE_sheets", "TRIPLE_touched", "TRUE", "TURN", "TURN_WORDS", "TURN_classes", "TURN_marks", "TURN_sheets", "Tested", "Told", "TooMany", "Trial", "TurnSearch", "TwinSearch", "UNDER"]
def nmR5 : List String := ["UNFIT", "UNMADE", "Unwinding", "WISHES", "WITHIN", "WITHIN_reading", "WITHIN_touched", "WORD", "WORDS_AT", "WRITES", "WRITTEN", "WRONG", "WRONG_PARTS", "WRONG_PARTS_rowstays", "WRONG_PARTS_stays", "WRONG_points", "WRONG_stays", "Walk", "Words", "__enter__", "__eq__", "__exit__", "__init__", "__iter__", "__name__", "_law_again", "_law_again_right", "_law_alike", "_law_all_called", "_law_all_leave", "_law_all_marks", "_law_always_right", "_law_applied", "_law_asked", "_law_asking", "_law_asking_line", "_law_at", "_law_bad", "_law_bare", "_law_bare_kinds", "_law_bare_line", "_law_bare_pass", "_law_begin", "_law_begun", "_law_bent", "_law_bent_block", "_law_bent_pair", "_law_block", "_law_block_newer", "_law_block_of"]
def nmR6 : List String := ["_law_block_read", "_law_block_text", "_law_block_with", "_law_both_right", "_law_called", "_law_carried_right", "_law_case", "_law_case_right", "_law_cases", "_law_caught", "_law_changed", "_law_choice_right", "_law_choices", "_law_clash", "_law_come", "_law_coming", "_law_contents", "_law_counted", "_law_dash", "_law_dearer_right", "_law_deed", "_law_deep", "_law_deep_right", "_law_do", "_law_done", "_law_drawn", "_law_drawn_block", "_law_drawn_lot", "_law_drawn_mark", "_law_drawn_row", "_law_due", "_law_edit_of", "_law_edit_right", "_law_edited", "_law_edits_refused", "_law_edits_right", "_law_end_of", "_law_ends", "_law_ends_right", "_law_every", "_law_exchanged_right", "_law_fate", "_law_fate_of", "_law_few", "_law_few_kinds", "_law_few_leaves", "_law_fielded", "_law_fields", "_law_filled", "_law_find"]
def nmR7 : List String := ["_law_first_of", "_law_first_wrong", "_law_firsts", "_law_fitting", "_law_flat", "_law_flat_cases", "_law_frame", "_law_further_cases", "_law_further_right", "_law_great", "_law_hand", "_law_hand_right", "_law_handler", "_law_handler_text", "_law_handlers", "_law_has_twin", "_law_head_rows", "_law_headed", "_law_headed_cases", "_law_headings", "_law_heads_right", "_law_heard", "_law_here", "_law_history_right", "_law_homes", "_law_if_read", "_law_inner", "_law_is", "_law_is_bare", "_law_is_change", "_law_is_due", "_law_is_good", "_law_is_late", "_law_is_leave", "_law_is_mark", "_law_is_model_so", "_law_is_out", "_law_is_pair", "_law_is_plain", "_law_is_reason", "_law_is_right", "_law_is_row", "_law_is_rowed", "_law_is_rule", "_law_is_sheet", "_law_is_shown", "_law_is_test", "_law_is_token", "_law_is_turn", "_law_is_way"]
def nmR8 : List String := ["_law_is_word", "_law_items", "_law_journal", "_law_judged", "_law_judged_right", "_law_keeper", "_law_kept", "_law_keyed", "_law_keyed_on", "_law_keys", "_law_kinds", "_law_kinds_read", "_law_known", "_law_labels", "_law_lacking_right", "_law_laid", "_law_later", "_law_lead", "_law_least_wrong", "_law_leave", "_law_leave_with", "_law_led", "_law_led_right", "_law_less_right", "_law_lesser", "_law_levels", "_law_like", "_law_line", "_law_line_of", "_law_line_said", "_law_line_tokens", "_law_lines", "_law_lines_right", "_law_list_right", "_law_lists", "_law_long", "_law_long_cases", "_law_look", "_law_lot", "_law_made", "_law_made_all", "_law_marked", "_law_marked_block", "_law_marks", "_law_matters", "_law_memories", "_law_memory", "_law_met", "_law_model_right", "_law_model_rows"]
def nmR9 : List String := ["_law_more", "_law_more_cases", "_law_moved", "_law_moves", "_law_named_right", "_law_names", "_law_near", "_law_needs", "_law_nested", "_law_newer", "_law_next", "_law_no_model", "_law_no_path", "_law_no_record", "_law_none_right", "_law_noted", "_law_number", "_law_obey", "_law_odd", "_law_odd_offers", "_law_odd_right", "_law_odd_rules", "_law_odd_sheets", "_law_of", "_law_offers", "_law_on", "_law_one", "_law_one_line", "_law_open", "_law_opened", "_law_order", "_law_order_line", "_law_order_of", "_law_order_right", "_law_order_rows", "_law_ordered", "_law_orders", "_law_other", "_law_other_line", "_law_other_program", "_law_others_right", "_law_owner_fate", "_law_owners_right", "_law_page", "_law_page_of", "_law_page_twin", "_law_pages", "_law_pairs", "_law_pairs_of", "_law_part"]
def nmR10 : List String := ["_law_parted", "_law_parts", "_law_parts_somewhere", "_law_pass_read", "_law_path", "_law_path_text", "_law_paths", "_law_paths_ever", "_law_picked", "_law_pieces_right", "_law_placed_of", "_law_places", "_law_plain", "_law_plans", "_law_pot", "_law_price", "_law_program", "_law_programs", "_law_ran", "_law_read_order", "_law_read_program", "_law_read_row", "_law_reason_right", "_law_record", "_law_records", "_law_refs", "_law_refused", "_law_refused_right", "_law_relabelled", "_law_right", "_law_right_ones", "_law_row", "_law_row_drawn", "_law_row_in", "_law_row_of", "_law_row_page", "_law_row_right", "_law_row_runs", "_law_row_said", "_law_row_with", "_law_rows_of", "_law_rows_text", "_law_rule", "_law_rule_text", "_law_rule_with", "_law_ruled", "_law_rules", "_law_run", "_law_runs", "_law_said"]
def nmR11 : List String := ["_law_said_of", "_law_same_levels", "_law_same_ran", "_law_same_right", "_law_same_steps", "_law_searched", "_law_seen", "_law_seen_on", "_law_sheet_of", "_law_sheets", "_law_shop", "_law_shops", "_law_shown", "_law_shown_wrong", "_law_side", "_law_sides_right", "_law_size", "_law_small", "_law_some_program", "_law_sorts", "_law_spots", "_law_statement", "_law_statements", "_law_states", "_law_stay", "_law_stays", "_law_step", "_law_steps", "_law_story_right", "_law_strings", "_law_take", "_law_test", "_law_text", "_law_texts", "_law_thirds_right", "_law_three", "_law_three_deep_right", "_law_three_lost", "_law_three_right", "_law_title_fate", "_law_title_leave", "_law_titled", "_law_titled_cases", "_law_titles", "_law_titles_above", "_law_titles_right", "_law_tokens", "_law_tokens_alike", "_law_told", "_law_told_count"]
def nmR12 : List String := ["_law_told_right", "_law_touched_right", "_law_town", "_law_towns_right", "_law_trial_right", "_law_turn_levels", "_law_turn_ran", "_law_turn_right", "_law_turn_steps", "_law_turned", "_law_turned_in", "_law_turned_once", "_law_turned_one", "_law_turnings", "_law_twin_levels", "_law_twin_steps", "_law_twins_right", "_law_two_passes", "_law_unders_right", "_law_unlike", "_law_unlike_right", "_law_unmade", "_law_value", "_law_values", "_law_variant", "_law_way_right", "_law_ways", "_law_wide_lore", "_law_with", "_law_with_word", "_law_within", "_law_without_part", "_law_word_classes", "_law_word_rows", "_law_words_text", "_law_world", "_law_world_right", "_law_write_right", "_law_writes", "_law_writing", "_law_written", "_law_written_right", "_law_wrong_line", "_law_wrong_right", "_law_xs", "_law_zero", "_wall", "add", "aim", "all_statements"]
def nmR13 : List String := ["append", "are_alike", "are_bits", "are_cells", "are_classes", "are_counts", "are_labels", "are_open", "are_over", "are_reasons", "are_tables", "are_turned", "are_twins", "are_unlike", "are_used", "are_worths", "asking", "asks", "at", "barred", "begins", "behind", "block", "block_at", "block_of", "carried", "cells_read", "changed", "changes_something", "cheapest", "check_all", "check_asked", "check_edits", "check_field", "check_label", "check_model", "check_offers", "check_pair", "check_row", "check_rule", "check_rules", "check_sheet", "check_way", "check_wish", "choices", "choices_of", "class_of", "classes", "classes_of_rows", "close_one"]
def nmR14 : List String := ["come", "come_taken", "copy", "count", "count_first", "deed_in", "deed_words", "deeper", "done_again", "done_by", "drop", "edit", "edit_in", "edited", "edits", "exchange", "extend", "fate", "fate_between", "fate_in", "fate_of", "fate_of_state", "fate_told", "fields_in", "fields_of", "figure_in", "first_bits", "first_cells", "first_clash", "first_of", "first_point", "first_worths", "first_wrong", "firsts", "fits", "found_in", "fresh", "get", "go", "goes_on", "gone_on", "grown", "guesses", "guesses_of", "handler", "handlers_of", "has_pair", "held_mark", "holds", "home_in"]
def nmR15 : List String := ["if_read", "index", "inner_kinds", "insert", "is_at_home", "is_between", "is_change", "is_closed", "is_count", "is_deed", "is_edit", "is_exchange", "is_home", "is_home_both", "is_integer", "is_label_unlike", "is_late", "is_leave", "is_let", "is_like", "is_mark", "is_member", "is_memory", "is_model", "is_model_of", "is_on", "is_one_of", "is_one_of_marks", "is_one_of_stays", "is_open_row", "is_over", "is_path", "is_place", "is_reason", "is_record", "is_right_table", "is_row", "is_row_changed", "is_rule", "is_settled", "is_sheet", "is_sheet_of", "is_state", "is_step", "is_title_asked", "is_touched", "is_tuple_of", "is_used", "is_way", "is_word"]
def nmR16 : List String := ["is_word_of", "is_wrong", "is_wrong_pair", "isupper", "items", "join", "joined", "joined_titles", "journal", "journal_text", "keep", "keeper", "kept", "key_class", "key_of", "kind_names", "kinds", "known_words", "labels", "laid", "lasting", "lasts", "law", "lead", "lead_desk", "lead_writing", "led", "led_all", "line", "line_laid", "lines", "lines_now", "lines_of", "lines_of_both", "look_at", "lstrip", "marked", "marked_text", "may_turn", "meet", "memory_of", "missing", "missing_of", "model", "model_from", "model_lines", "model_to", "models", "models_to", "named"]
def nmR17 : List String := ["naming", "need", "number", "number_in", "open_one", "opened", "openings", "opens", "order_in", "order_lines", "order_taken", "orders", "own_ahead", "own_aim", "own_aims", "own_asked", "own_at", "own_begin", "own_begun", "own_bits", "own_came", "own_cell", "own_cells", "own_closes", "own_depths", "own_edited", "own_edits", "own_elder", "own_end", "own_field", "own_first", "own_frame", "own_fresh", "own_front", "own_guesses", "own_home", "own_home_now", "own_hung", "own_is_first", "own_is_home_both", "own_journal", "own_keeper", "own_kind", "own_kinds", "own_known", "own_label", "own_labels", "own_lasting", "own_late", "own_letters"]
def nmR18 : List String := ["own_line", "own_lines", "own_made", "own_many", "own_many_made", "own_many_written", "own_meant", "own_model", "own_named", "own_newer", "own_next", "own_number", "own_numbers", "own_open", "own_opened", "own_openings", "own_opens", "own_orders", "own_outer", "own_pass", "own_passes", "own_path", "own_place", "own_places", "own_plan", "own_plans", "own_points", "own_program", "own_programs", "own_rear", "own_records", "own_refs", "own_rows", "own_rule", "own_rules", "own_runs", "own_scope", "own_second", "own_shape", "own_shapes", "own_sheet", "own_statements", "own_taken", "own_test", "own_text", "own_texts", "own_title", "own_tokens", "own_told", "own_tried"]
def nmR19 : List String := ["own_under", "own_undone", "own_walk", "own_wish", "own_word", "own_words", "own_worth", "own_writer", "own_wrong", "own_wrongs", "pairs_of", "pass_read", "passes", "path_in", "path_text", "path_to", "paths_of", "place", "places_in", "places_of", "plans", "point_behind", "points_ahead", "pop", "program", "program_taken", "program_with", "put", "put_paths", "read", "read_journal", "read_kind", "read_model", "read_plan", "record_lines", "redo", "ref_in", "refuse", "remembered", "remembered_in", "replace", "rises", "row_at", "row_in", "row_stays", "rows_in", "rstrip", "rule_in", "rule_words", "ruled"]
def nmR20 : List String := ["runs_of", "same", "say", "setdefault", "setting", "setting_in", "settle", "sheet_in", "show_fate", "show_labels", "show_lines", "show_model", "show_rows", "show_way", "shows", "shows_cheapest", "shows_row_stays", "shows_same", "shows_stays", "shows_told", "shows_touched", "shows_twins", "simple_in", "split", "startswith", "state", "statement", "statements_of", "stays", "stays_in", "stays_of", "step_in", "step_out", "steps", "steps_in", "story_to", "strip", "sums_of", "table", "take", "take_deeper", "take_elder", "take_newer", "take_record", "take_row", "taken", "test_in", "testing", "text", "text_of"]
def nmR21 : List String := ["title_behind", "title_bit", "title_token", "titled", "token_in", "tokens_in", "told", "touched", "trial", "tried", "turn", "turned_to", "turns_in", "twins", "undo", "undone_ahead", "unwound", "update", "upper", "used_with", "value", "values", "walk_to", "whiches", "with_coming", "with_edit", "with_marks", "with_model", "with_one_more", "with_program", "with_record", "with_row", "with_turn", "without_edit", "without_going", "word", "word_for", "word_of", "words_at", "words_both", "words_for", "words_in", "words_of", "words_text", "words_told", "write", "write_all", "write_block", "write_row", "writing"]
def nmR22 : List String := ["writing_in", "written", "written_anew", "wrongs"]
def nmT : List (List String) := [nmR0, nmR1, nmR2, nmR3, nmR4, nmR5, nmR6, nmR7, nmR8, nmR9, nmR10, nmR11, nmR12, nmR13, nmR14, nmR15, nmR16, nmR17, nmR18, nmR19, nmR20, nmR21, nmR22]
def nm (i : Nat) : Str := PySem.Str.ofString ((nmT.getD (i / 50) []).getD (i % 50) "")
end Mi

set_option maxRecDepth 100000
set_option maxHeartbeats 4000000
/-! instances: their fields read and stored, their methods called, new ones made -/
namespace Mi
open PySem

/-! ### fields by their numbers -/
def upL : List (List Nat) → Bool
  | a :: b :: r => decide (a < b) && upL (b :: r)
  | _ => true
theorem upL_pw : ∀ {l : List (List Nat)}, upL l = true → l.Pairwise (· < ·)
  | [], _ => .nil
  | [a], _ => by simp
  | a :: b :: r, h => by
    unfold upL at h
    rw [Bool.and_eq_true, decide_eq_true_eq] at h
    have ih := upL_pw h.2
    rw [List.pairwise_cons]
    refine ⟨fun z hz => ?_, ih⟩
    rcases List.mem_cons.mp hz with e | hz
    · rw [e]; exact h.1
    · exact List.lt_trans h.1 ((List.pairwise_cons.mp ih).1 z hz)
theorem nm_up : upL ((List.range 1104).map fun i => (nm i).cps.toList) = true := by decide +kernel
theorem nm_inj {i j : Nat} (hi : i < 1104) (hj : j < 1104) (e : nm i = nm j) : i = j := by
  have pw := upL_pw nm_up
  have one : ∀ {a b : Nat}, a < b → b < 1104 → nm a ≠ nm b := fun {a b} h hb e => by
    have := List.pairwise_iff_getElem.mp pw a b (by simp; omega) (by simpa using hb) h
    simp only [List.getElem_map, List.getElem_range, e] at this
    exact List.lt_irrefl _ this
  rcases Nat.lt_trichotomy i j with h | h | h
  · exact absurd e (one h hj)
  · exact h
  · exact absurd e.symm (one h hi)
end Mi

set_option maxRecDepth 100000
set_option maxHeartbeats 4000000
/-! A small language of values, laid over the hand layer: data, stores, what it means that a heap bears them. -/
namespace Mi
open PySem PySem.Spec L2

abbrev KeyD := Sum Int (List Nat)
/-- data: what is never written is held as a value; what is written, at a place of the store -/
inductive D where
  | non | bl (b : Bool) | int (i : Int) | str (s : List Nat)
  | tup (xs : List D) | lst (xs : List D) | fro (xs : List D) | dct (ks : List KeyD) (vs : List D) | dtu (ks : List (List KeyD)) (vs : List D)
  | loc (n : Nat) | glo (x : Nat) | ty (n : Nat)
  | tuq (xs : List D) | xcp (c : Nat) (fs : List Nat) (vs : List D)
/-- what stands at a place of the store -/
inductive Ob where
  | lst (xs : List D) | frl (xs : List D) | dct (ks : List KeyD) (vs : List D) | frd (ks : List KeyD) (vs : List D) | ins (c : Nat) (fs : List Nat) (vs : List D)
abbrev Sto := List Ob
structure Ex where
  cls : Nat
  fs : List Nat
  vs : List D
/-- the built-in types, by their numbers -/
def tyN : Nat → String
  | 0 => "NoneType" | 1 => "bool" | 2 => "int" | 3 => "str" | 4 => "tuple" | 5 => "list" | 6 => "dict" | _ => "object"
inductive R (α : Type) where
  | ok (a : α) (st : Sto) | exc (x : Ex) (st : Sto) | bad
def R.bind {α β : Type} : R α → (α → Sto → R β) → R β
  | .ok a st, f => f a st
  | .exc x st, _ => .exc x st
  | .bad, _ => .bad
@[simp] theorem R.bind_ok {α β : Type} (a : α) (st : Sto) (f : α → Sto → R β) : (R.ok a st).bind f = f a st := rfl
@[simp] theorem R.bind_exc {α β : Type} (x : Ex) (st : Sto) (f : α → Sto → R β) : (R.exc x st : R α).bind f = .exc x st := rfl
@[simp] theorem R.bind_bad {α β : Type} (f : α → Sto → R β) : (R.bad : R α).bind f = .bad := rfl

def keyOf : KeyD → Key
  | .inl i => .inl i
  | .inr s => .inr ⟨s.toArray⟩
theorem keyOf_inj {a b : KeyD} (h : keyOf a = keyOf b) : a = b := by
  cases a <;> cases b <;> simp [keyOf] at h <;> simp [h]

/-- the store's places; what is hidden besides -/
structure Io where
  l : List Addr
  h : List Addr
instance : Membership Addr Io := ⟨fun io a => a ∈ io.l ∨ a ∈ io.h⟩
def Io.get (io : Io) (n : Nat) : Option Addr := io.l[n]?
def Io.push (io : Io) (a : Addr) : Io := ⟨io.l ++ [a], io.h⟩
/-- a list that is written nowhere: tracked apart from the store -/
def LstAt (H : Hp) (io : Io) (a : Addr) (xs : List V) : Prop := H a = some (.lst xs) ∧ a ∉ io
/-- a list known to its object, or of the module -/
def FroAt (K : PySem.W.Frag) (H : Hp) (io : Io) (a : Addr) (xs : List V) : Prop := (∃ o, H a = some (.frz o (.lst xs)) ∧ a ∉ io) ∨
  ∃ (o : Obj) (its : Array Value) (n : Nat), K.lookup a = some o ∧ o.cls = .type "list" ∧ o.dict = none ∧ o.data = .seq its n ∧ its.size ≤ sizeLine ∧ Vals xs its.toList
/-- dicts that are never written again: known to their objects -/
def DctAt (H : Hp) (io : Io) (a : Addr) (kvs : List (Key × V)) : Prop := ∃ o, H a = some (.frz o (.dK kvs)) ∧ a ∉ io
def DtuAt (H : Hp) (io : Io) (a : Addr) (kvs : List (List Key × V)) : Prop := ∃ o, H a = some (.frz o (.dT kvs)) ∧ a ∉ io
/-- a tuple known to its object, without a dict -/
def TuqAt (H : Hp) (io : Io) (a : Addr) (xs : List V) : Prop := ∃ o, H a = some (.frz o (.tup xs)) ∧ a ∉ io ∧ o.cls = .type "tuple" ∧ o.dict = none
/-- an exception of the class at C, its dict at d -/
def XcO (a C : Addr) (d : Option Addr) : HO := .ext fun h => ∃ (oe : Obj) (vs : Array Value), h.get? a = some oe ∧ oe.cls = .ref C ∧ oe.dict = d ∧ oe.data = .fields vs
def XcpAt (H : Hp) (io : Io) (a C : Addr) (fs : List (Str × V)) : Prop := (∃ d, H a = some (XcO a C (some d)) ∧ a ∉ io ∧ H d = some (.xd fs) ∧ d ∉ io) ∨ (H a = some (XcO a C none) ∧ a ∉ io ∧ fs = [])
mutual
def Rep (K : PySem.W.Frag) (H : Hp) (io : Io) : D → V → Prop
  | .non, v => v = .non
  | .bl b, v => v = .bl b
  | .int i, v => v = .int i
  | .str s, v => v = .str ⟨s.toArray⟩
  | .tup ds, v => ∃ a xs, v = .ref a ∧ H a = some (.tup xs) ∧ RepL K H io ds xs
  | .lst ds, v => ∃ a xs, v = .ref a ∧ LstAt H io a xs ∧ RepL K H io ds xs
  | .fro ds, v => ∃ a xs, v = .ref a ∧ FroAt K H io a xs ∧ RepL K H io ds xs
  | .dct ks ds, v => ∃ a xs, v = .ref a ∧ DctAt H io a ((ks.map keyOf).zip xs) ∧ ks.length = xs.length ∧ RepL K H io ds xs
  | .dtu ks ds, v => ∃ a xs, v = .ref a ∧ DtuAt H io a ((ks.map (List.map keyOf)).zip xs) ∧ ks.length = xs.length ∧ RepL K H io ds xs
  | .loc n, v => ∃ a, io.get n = some a ∧ v = .ref a
  | .glo x, v => v = .ref (He.ga K (nm x))
  | .ty n, v => v = .ty (tyN n)
  | .tuq ds, v => ∃ a xs, v = .ref a ∧ TuqAt H io a xs ∧ RepL K H io ds xs
  | .xcp c fs ds, v => ∃ a xs, v = .ref a ∧ XcpAt H io a (He.ga K (nm c)) ((fs.map nm).zip xs) ∧ fs.length = xs.length ∧ RepL K H io ds xs
def RepL (K : PySem.W.Frag) (H : Hp) (io : Io) : List D → List V → Prop
  | [], xs => xs = []
  | d :: ds, xs => ∃ x r, xs = x :: r ∧ Rep K H io d x ∧ RepL K H io ds r
end

/-- what a datum's meaning leans on stays -/
structure Mv0 (io : Io) (H : Hp) (io' : Io) (H' : Hp) : Prop where
  at_ : ∀ n a, io.get n = some a → io'.get n = some a
  lst : ∀ a o, H a = some o → a ∉ io → H' a = some o ∧ a ∉ io'
  tups : ∀ a xs, H a = some (.tup xs) → H' a = some (.tup xs)
structure Mv (io : Io) (H : Hp) (io' : Io) (H' : Hp) : Prop where
  at_ : ∀ n a, io.get n = some a → io'.get n = some a
  lst : ∀ a o, H a = some o → a ∉ io → H' a = some o ∧ a ∉ io'
  tups : ∀ a xs, H a = some (.tup xs) → H' a = some (.tup xs)
  frzs : ∀ a o u, H a = some (.frz o u) → H' a = some (.frz o u)
/-- the heap goes on: what is not the store's stays, the store's new places were free -/
structure Ext (io : Io) (H : Hp) (io' : Io) (H' : Hp) : Prop where
  more : ∃ t, io'.l = io.l ++ t
  same : io'.h = io.h
  keep : ∀ a o, H a = some o → a ∉ io → H' a = some o
  hid : ∀ a, a ∈ io.h → a ∉ io.l → H' a = H a ∧ a ∉ io'.l
  tups : ∀ a xs, H a = some (.tup xs) → H' a = some (.tup xs)
  frzs : ∀ a o u, H a = some (.frz o u) → H' a = some (.frz o u)
  new : ∀ a, a ∈ io' → a ∉ io → H a = none
theorem Ext.refl (io : Io) (H : Hp) : Ext io H io H :=
  ⟨⟨[], by simp⟩, rfl, fun _ _ h _ => h, fun _ _ n => ⟨rfl, n⟩, fun _ _ h => h, fun _ _ _ h => h, fun a h1 h2 => absurd h1 h2⟩
theorem Ext.sub {io io' : Io} {H H' : Hp} (x : Ext io H io' H') {a : Addr} (h : a ∈ io) : a ∈ io' := by
  obtain ⟨t, e⟩ := x.more
  rcases h with h | h
  · exact .inl (by rw [e]; exact List.mem_append_left _ h)
  · exact .inr (by rw [x.same]; exact h)
theorem Ext.at {io io' : Io} {H H' : Hp} (x : Ext io H io' H') {n : Nat} {a : Addr} (h : io.get n = some a) : io'.get n = some a := by
  obtain ⟨t, e⟩ := x.more
  unfold Io.get at h ⊢
  rw [e, List.getElem?_append_left (List.getElem?_eq_some_iff.mp h).1]
  exact h
theorem Ext.out {io io' : Io} {H H' : Hp} (x : Ext io H io' H') {a : Addr} {o : HO} (h : H a = some o) (n : a ∉ io) : a ∉ io' := fun m => by
  rw [x.new a m n] at h; cases h
theorem Ext.mv {io io' : Io} {H H' : Hp} (x : Ext io H io' H') : Mv io H io' H' := ⟨fun _ _ h => x.at h, fun a o h n => ⟨x.keep a o h n, x.out h n⟩, x.tups, x.frzs⟩
theorem Mv.to0 {io io' : Io} {H H' : Hp} (x : Mv io H io' H') : Mv0 io H io' H' := ⟨x.at_, x.lst, x.tups⟩
theorem Mv.sqt {K : PySem.W.Frag} {io io' : Io} {H H' : Hp} (x : Mv io H io' H') {a : Addr} {xs : List V} (h : SqT K H a xs) : SqT K H' a xs := by
  rcases h with (h | ⟨o, h⟩) | h
  · exact .inl (.inl (x.tups _ _ h))
  · exact .inl (.inr ⟨o, x.frzs _ _ _ h⟩)
  · exact .inr h
theorem Mv0.fro {K : PySem.W.Frag} {io io' : Io} {H H' : Hp} (x : Mv0 io H io' H') {a : Addr} {xs : List V} (h : FroAt K H io a xs) : FroAt K H' io' a xs := by
  rcases h with ⟨o, h, n⟩ | h
  · exact .inl ⟨o, x.lst _ _ h n⟩
  · exact .inr h
theorem Mv.fro {K : PySem.W.Frag} {io io' : Io} {H H' : Hp} (x : Mv io H io' H') {a : Addr} {xs : List V} (h : FroAt K H io a xs) : FroAt K H' io' a xs := x.to0.fro h
theorem Ext.sqt {K : PySem.W.Frag} {io io' : Io} {H H' : Hp} (x : Ext io H io' H') {a : Addr} {xs : List V} (h : SqT K H a xs) : SqT K H' a xs := x.mv.sqt h
theorem Ext.fro {K : PySem.W.Frag} {io io' : Io} {H H' : Hp} (x : Ext io H io' H') {a : Addr} {xs : List V} (h : FroAt K H io a xs) : FroAt K H' io' a xs := x.mv.fro h
theorem FroAt.sql {K : PySem.W.Frag} {H : Hp} {io : Io} {a : Addr} {xs : List V} (h : FroAt K H io a xs) : SqL K H a xs := by
  rcases h with ⟨o, h, _⟩ | h
  · exact .inl (.inr ⟨o, h⟩)
  · exact .inr h
theorem Mv0.tuq {io io' : Io} {H H' : Hp} (x : Mv0 io H io' H') {a : Addr} {xs : List V} (h : TuqAt H io a xs) : TuqAt H' io' a xs := by
  obtain ⟨o, h, n, c⟩ := h
  exact ⟨o, (x.lst _ _ h n).1, (x.lst _ _ h n).2, c⟩
theorem Mv0.xcp {io io' : Io} {H H' : Hp} (x : Mv0 io H io' H') {a C : Addr} {fs : List (Str × V)} (h : XcpAt H io a C fs) : XcpAt H' io' a C fs := by
  rcases h with ⟨d, h, n, h2, n2⟩ | ⟨h, n, e⟩
  · exact .inl ⟨d, (x.lst _ _ h n).1, (x.lst _ _ h n).2, (x.lst _ _ h2 n2).1, (x.lst _ _ h2 n2).2⟩
  · exact .inr ⟨(x.lst _ _ h n).1, (x.lst _ _ h n).2, e⟩
mutual
theorem Rep.mv0 {K : PySem.W.Frag} {io io' : Io} {H H' : Hp} (x : Mv0 io H io' H') : ∀ (d : D) (v : V), Rep K H io d v → Rep K H' io' d v
  | .non, _, h => h
  | .bl _, _, h => h
  | .int _, _, h => h
  | .str _, _, h => h
  | .tup ds, _, h => by
    obtain ⟨a, xs, e, s, r⟩ := h
    exact ⟨a, xs, e, x.tups _ _ s, RepL.mv0 x ds xs r⟩
  | .lst ds, _, h => by
    obtain ⟨a, xs, e, ⟨s, n⟩, r⟩ := h
    exact ⟨a, xs, e, x.lst _ _ s n, RepL.mv0 x ds xs r⟩
  | .fro ds, _, h => by
    obtain ⟨a, xs, e, s, r⟩ := h
    exact ⟨a, xs, e, x.fro s, RepL.mv0 x ds xs r⟩
  | .dct ks ds, _, h => by
    obtain ⟨a, xs, e, ⟨o, s, n⟩, l, r⟩ := h
    exact ⟨a, xs, e, ⟨o, x.lst _ _ s n⟩, l, RepL.mv0 x ds xs r⟩
  | .dtu ks ds, _, h => by
    obtain ⟨a, xs, e, ⟨o, s, n⟩, l, r⟩ := h
    exact ⟨a, xs, e, ⟨o, x.lst _ _ s n⟩, l, RepL.mv0 x ds xs r⟩
  | .loc n, _, h => by
    obtain ⟨a, e, r⟩ := h
    exact ⟨a, x.at_ _ _ e, r⟩
  | .glo _, _, h => h
  | .ty _, _, h => h
  | .tuq ds, _, h => by
    obtain ⟨a, xs, e, s, r⟩ := h
    exact ⟨a, xs, e, x.tuq s, RepL.mv0 x ds xs r⟩
  | .xcp _ _ ds, _, h => by
    obtain ⟨a, xs, e, s, n, r⟩ := h
    exact ⟨a, xs, e, x.xcp s, n, RepL.mv0 x ds xs r⟩
theorem RepL.mv0 {K : PySem.W.Frag} {io io' : Io} {H H' : Hp} (x : Mv0 io H io' H') : ∀ (ds : List D) (xs : List V), RepL K H io ds xs → RepL K H' io' ds xs
  | [], _, h => h
  | d :: ds, _, h => by
    obtain ⟨y, r, e, h1, h2⟩ := h
    exact ⟨y, r, e, Rep.mv0 x d y h1, RepL.mv0 x ds r h2⟩
end

theorem Rep.mv {K : PySem.W.Frag} {io io' : Io} {H H' : Hp} (x : Mv io H io' H') (d : D) (v : V) (h : Rep K H io d v) : Rep K H' io' d v := Rep.mv0 x.to0 d v h
theorem RepL.mv {K : PySem.W.Frag} {io io' : Io} {H H' : Hp} (x : Mv io H io' H') (d : List D) (v : List V) (h : RepL K H io d v) : RepL K H' io' d v := RepL.mv0 x.to0 d v h

theorem Ext.trans {i1 i2 i3 : Io} {H1 H2 H3 : Hp} (x : Ext i1 H1 i2 H2) (y : Ext i2 H2 i3 H3) : Ext i1 H1 i3 H3 := by
  have back : ∀ a o, H1 a = some o → a ∉ i1 → a ∉ i2 := fun a o h n m => by
    rw [x.new a m n] at h; cases h
  refine ⟨?_, y.same.trans x.same, fun a o h n => y.keep a o (x.keep a o h n) (back a o h n), fun a h n => ?_, fun a xs h => y.tups a xs (x.tups a xs h), fun a o u h => y.frzs a o u (x.frzs a o u h), fun a h3 n => ?_⟩
  · obtain ⟨t1, e1⟩ := x.more
    obtain ⟨t2, e2⟩ := y.more
    exact ⟨t1 ++ t2, by rw [e2, e1]; simp⟩
  · have q := x.hid a h n
    have q2 := y.hid a (by rw [x.same]; exact h) q.2
    exact ⟨q2.1.trans q.1, q2.2⟩
  · by_cases h2 : a ∈ i2
    · exact x.new a h2 n
    · have q := y.new a h3 h2
      cases e : H1 a with
      | none => rfl
      | some o => rw [x.keep a o e n] at q; cases q
theorem Rep.ext {K : PySem.W.Frag} {io io' : Io} {H H' : Hp} (x : Ext io H io' H') (d : D) (v : V) (h : Rep K H io d v) : Rep K H' io' d v := Rep.mv x.mv d v h
theorem RepL.ext {K : PySem.W.Frag} {io io' : Io} {H H' : Hp} (x : Ext io H io' H') (d : List D) (v : List V) (h : RepL K H io d v) : RepL K H' io' d v := RepL.mv x.mv d v h

section
variable {K : PySem.W.Frag} {H H' : Hp} {io io' : Io}
theorem RepL.nil : RepL K H io [] [] := rfl
theorem RepL.cons {d : D} {ds : List D} {v : V} {vs : List V} (h : Rep K H io d v) (t : RepL K H io ds vs) : RepL K H io (d :: ds) (v :: vs) := ⟨v, vs, rfl, h, t⟩
theorem RepL.len : ∀ {ds : List D} {xs : List V}, RepL K H io ds xs → ds.length = xs.length
  | [], _, h => by cases h; rfl
  | _ :: _, _, h => by
    obtain ⟨y, r, rfl, _, h2⟩ := h
    simp [RepL.len h2]
theorem RepL.at : ∀ {ds : List D} {xs : List V} {i : Nat} {d : D}, RepL K H io ds xs → ds[i]? = some d → ∃ v, xs[i]? = some v ∧ Rep K H io d v
  | [], _, _, _, _, e => by simp at e
  | _ :: _, _, 0, _, h, e => by
    obtain ⟨y, r, rfl, h1, _⟩ := h
    simp at e; subst e
    exact ⟨y, rfl, h1⟩
  | _ :: _, _, i + 1, d, h, e => by
    obtain ⟨y, r, rfl, _, h2⟩ := h
    obtain ⟨v, e1, e2⟩ := RepL.at (i := i) (d := d) h2 (by simpa using e)
    exact ⟨v, by simpa using e1, e2⟩
theorem RepL.get : ∀ {ds : List D} {xs : List V} {i : Nat} {v : V}, RepL K H io ds xs → xs[i]? = some v → ∃ d, ds[i]? = some d ∧ Rep K H io d v
  | [], _, _, _, h, e => by cases h; simp at e
  | d :: _, _, 0, _, h, e => by
    obtain ⟨y, r, rfl, h1, _⟩ := h
    simp at e; subst e
    exact ⟨d, rfl, h1⟩
  | _ :: _, _, i + 1, v, h, e => by
    obtain ⟨y, r, rfl, _, h2⟩ := h
    obtain ⟨d, e1, e2⟩ := RepL.get (i := i) (v := v) h2 (by simpa using e)
    exact ⟨d, by simpa using e1, e2⟩
theorem RepL.append : ∀ {ds es : List D} {xs ys : List V}, RepL K H io ds xs → RepL K H io es ys → RepL K H io (ds ++ es) (xs ++ ys)
  | [], _, _, _, h, g => by cases h; exact g
  | _ :: _, _, _, _, h, g => by
    obtain ⟨y, r, rfl, h1, h2⟩ := h
    exact ⟨y, r ++ _, rfl, h1, RepL.append h2 g⟩
theorem RepL.take : ∀ {ds : List D} {xs : List V} (n : Nat), RepL K H io ds xs → RepL K H io (ds.take n) (xs.take n)
  | ds, xs, 0, _ => by simp [RepL]
  | [], _, _ + 1, h => by cases h; rfl
  | _ :: _, _, n + 1, h => by
    obtain ⟨y, r, rfl, h1, h2⟩ := h
    exact ⟨y, r.take n, rfl, h1, RepL.take n h2⟩
theorem RepL.drop : ∀ {ds : List D} {xs : List V} (n : Nat), RepL K H io ds xs → RepL K H io (ds.drop n) (xs.drop n)
  | _, _, 0, h => by simpa using h
  | [], _, _ + 1, h => by cases h; rfl
  | _ :: _, _, n + 1, h => by
    obtain ⟨y, r, rfl, h1, h2⟩ := h
    simpa using RepL.drop n h2
theorem RepL.set : ∀ {ds : List D} {xs : List V} (n : Nat) {d : D} {v : V}, RepL K H io ds xs → Rep K H io d v → RepL K H io (ds.set n d) (xs.set n v)
  | [], _, _, _, _, h, _ => by cases h; simp [RepL]
  | _ :: _, _, 0, _, _, h, g => by
    obtain ⟨y, r, rfl, h1, h2⟩ := h
    exact ⟨_, r, rfl, g, h2⟩
  | _ :: _, _, n + 1, _, _, h, g => by
    obtain ⟨y, r, rfl, h1, h2⟩ := h
    exact ⟨y, r.set n _, rfl, h1, RepL.set n h2 g⟩
theorem RepL.reverse : ∀ {ds : List D} {xs : List V}, RepL K H io ds xs → RepL K H io ds.reverse xs.reverse
  | [], _, h => by cases h; simp [RepL]
  | _ :: _, _, h => by
    obtain ⟨y, r, rfl, h1, h2⟩ := h
    rw [List.reverse_cons, List.reverse_cons]
    exact RepL.append (RepL.reverse h2) (.cons h1 .nil)
theorem RepL.map {α : Type} {f : α → D} {g : α → V} (h : ∀ x, Rep K H io (f x) (g x)) : ∀ l : List α, RepL K H io (l.map f) (l.map g)
  | [] => rfl
  | x :: l => ⟨g x, l.map g, rfl, h x, RepL.map h l⟩
theorem RepL.ints {ds : List D} {xs : List V} (h : RepL K H io ds xs) {ns : List Int} (e : ds = ns.map D.int) : xs = ns.map V.int := by
  subst e
  induction ns generalizing xs with
  | nil => exact h
  | cons n ns ih =>
    obtain ⟨y, r, rfl, h1, h2⟩ := h
    cases h1
    rw [ih h2]; rfl
theorem RepL.bools {ds : List D} {xs : List V} (h : RepL K H io ds xs) {ns : List Bool} (e : ds = ns.map D.bl) : xs = ns.map V.bl := by
  subst e
  induction ns generalizing xs with
  | nil => exact h
  | cons n ns ih =>
    obtain ⟨y, r, rfl, h1, h2⟩ := h
    cases h1
    rw [ih h2]; rfl
theorem RepL.strs {ds : List D} {xs : List V} (h : RepL K H io ds xs) {ns : List (List Nat)} (e : ds = ns.map D.str) : xs = ns.map fun s => V.str ⟨s.toArray⟩ := by
  subst e
  induction ns generalizing xs with
  | nil => exact h
  | cons n ns ih =>
    obtain ⟨y, r, rfl, h1, h2⟩ := h
    cases h1
    rw [ih h2]; rfl
end

/-- what an object of the store is in the heap -/
def ObAt (K : PySem.W.Frag) (H : Hp) (io : Io) (a : Addr) : Ob → Prop
  | .lst ds => ∃ xs, H a = some (.lst xs) ∧ RepL K H io ds xs
  | .frl ds => ∃ o xs, H a = some (.frz o (.lst xs)) ∧ RepL K H io ds xs
  | .dct ks ds => ∃ xs, H a = some (.dK ((ks.map keyOf).zip xs)) ∧ ks.length = xs.length ∧ RepL K H io ds xs
  | .frd ks ds => ∃ o xs, H a = some (.frz o (.dK ((ks.map keyOf).zip xs))) ∧ ks.length = xs.length ∧ RepL K H io ds xs
  | .ins c fs ds => (∀ g ∈ fs, g < 1104) ∧ ∃ dx xs, H a = some (.ins (He.ga K (nm c)) dx ((fs.map nm).zip xs)) ∧ fs.length = xs.length ∧ RepL K H io ds xs
structure StOk (K : PySem.W.Frag) (H : Hp) (io : Io) (st : Sto) : Prop where
  len : io.l.length = st.length
  nd : io.l.Nodup
  ob : ∀ (n : Nat) (a : Addr) (b : Ob), io.get n = some a → st[n]? = some b → ObAt K H io a b
  hs : ∀ a, a ∈ io.h → a ∉ io.l ∧ ∃ o, H a = some o ∧ ∀ xs, o ≠ .tup xs
section
variable {K : PySem.W.Frag} {H H' : Hp} {io io' : Io} {st : Sto}
theorem StOk.there (s : StOk K H io st) {n : Nat} {b : Ob} (h : st[n]? = some b) : ∃ a, io.get n = some a ∧ ObAt K H io a b := by
  obtain ⟨hl, _⟩ := List.getElem?_eq_some_iff.mp h
  have hl' : n < io.l.length := by rw [s.len]; exact hl
  exact ⟨io.l[n], by simp [Io.get, hl'], s.ob n _ b (by simp [Io.get, hl']) h⟩
theorem ObAt.some {a : Addr} {b : Ob} (h : ObAt K H io a b) : ∃ o, H a = .some o ∧ ∀ xs, o ≠ .tup xs := by
  cases b with
  | lst ds => obtain ⟨xs, e, _⟩ := h; exact ⟨_, e, (by intro _ z; cases z)⟩
  | frl ds => obtain ⟨_, xs, e, _⟩ := h; exact ⟨_, e, (by intro _ z; cases z)⟩
  | dct ks ds => obtain ⟨xs, e, _⟩ := h; exact ⟨_, e, (by intro _ z; cases z)⟩
  | frd ks ds => obtain ⟨_, xs, e, _⟩ := h; exact ⟨_, e, (by intro _ z; cases z)⟩
  | ins c fs ds => obtain ⟨_, dx, xs, e, _⟩ := h; exact ⟨_, e, (by intro _ z; cases z)⟩
theorem StOk.has (s : StOk K H io st) {a : Addr} (h : a ∈ io) : ∃ o, H a = some o ∧ ∀ xs, o ≠ .tup xs := by
  rcases h with h | h
  · obtain ⟨n, hn, e⟩ := List.getElem_of_mem h
    have h1 : io.get n = some a := by simp [Io.get, hn, e]
    have h2 : n < st.length := by rw [← s.len]; exact hn
    exact (s.ob n a st[n] h1 (by simp [h2])).some
  · exact (s.hs a h).2
theorem StOk.free (s : StOk K H io st) {p : Addr} (h : H p = none) : p ∉ io := fun m => by
  obtain ⟨o, e, _⟩ := s.has m
  rw [h] at e; cases e
theorem ObAt.mv0 {a : Addr} {b : Ob} (x : Mv0 io H io' H') (e : H' a = H a) (h : ObAt K H io a b) : ObAt K H' io' a b := by
  cases b with
  | lst ds => obtain ⟨xs, q, r⟩ := h; exact ⟨xs, e.trans q, RepL.mv0 x _ _ r⟩
  | frl ds => obtain ⟨o, xs, q, r⟩ := h; exact ⟨o, xs, e.trans q, RepL.mv0 x _ _ r⟩
  | dct ks ds => obtain ⟨xs, q, l, r⟩ := h; exact ⟨xs, e.trans q, l, RepL.mv0 x _ _ r⟩
  | frd ks ds => obtain ⟨o, xs, q, l, r⟩ := h; exact ⟨o, xs, e.trans q, l, RepL.mv0 x _ _ r⟩
  | ins c fs ds => obtain ⟨b, dx, xs, q, l, r⟩ := h; exact ⟨b, dx, xs, e.trans q, l, RepL.mv0 x _ _ r⟩
theorem ObAt.mv {a : Addr} {b : Ob} (x : Mv io H io' H') (e : H' a = H a) (h : ObAt K H io a b) : ObAt K H' io' a b := h.mv0 x.to0 e
theorem ObAt.ext {a : Addr} {b : Ob} (x : Ext io H io' H') (e : H' a = H a) (h : ObAt K H io a b) : ObAt K H' io' a b := h.mv x.mv e
/-- a new object, apart from the store -/
theorem Ext.fresh (s : StOk K H io st) {p : Addr} (h : H p = none) (o : HO) : Ext io H io (upd H p o) :=
  ⟨⟨[], by simp⟩, rfl, fun a u e _ => by rw [upd_ne (ne_of_none e h)]; exact e, fun a m n => ⟨upd_ne (fun z => by subst z; exact s.free h (.inr m)), n⟩, fun a u e => by rw [upd_ne (ne_of_none e h)]; exact e, fun a u w e => by rw [upd_ne (ne_of_none e h)]; exact e, fun a h1 h2 => absurd h1 h2⟩
theorem StOk.fresh (s : StOk K H io st) {p : Addr} (h : H p = none) (o : HO) : StOk K (upd H p o) io st :=
  ⟨s.len, s.nd, fun n a b e1 e2 => (s.ob n a b e1 e2).ext (Ext.fresh s h o) (by
    obtain ⟨u, e, _⟩ := (s.ob n a b e1 e2).some
    rw [upd_ne (ne_of_none e h)]), fun a m => let ⟨n, u, e, r⟩ := s.hs a m; ⟨n, u, by rw [upd_ne (ne_of_none e h)]; exact e, r⟩⟩
/-- a new object of the store -/
theorem Ext.push (s : StOk K H io st) {p : Addr} (h : H p = none) (o : HO) : Ext io H (io.push p) (upd H p o) := by
  refine ⟨⟨[p], rfl⟩, rfl, fun a u e _ => by rw [upd_ne (ne_of_none e h)]; exact e, fun a m n => ?_, fun a u e => by rw [upd_ne (ne_of_none e h)]; exact e, fun a u w e => by rw [upd_ne (ne_of_none e h)]; exact e, fun a h1 h2 => ?_⟩
  · have ne : a ≠ p := fun z => by subst z; exact s.free h (.inr m)
    refine ⟨upd_ne ne, fun z => ?_⟩
    rcases List.mem_append.mp z with z | z
    · exact n z
    · exact ne (List.mem_singleton.mp z)
  · rcases h1 with z | z
    · rcases List.mem_append.mp z with z | z
      · exact absurd (.inl z) h2
      · rw [List.mem_singleton.mp z]; exact h
    · exact absurd (.inr z) h2
theorem StOk.push (s : StOk K H io st) {p : Addr} (h : H p = none) {o : HO} {b : Ob} (hb : ObAt K (upd H p o) (io.push p) p b) : StOk K (upd H p o) (io.push p) (st ++ [b]) := by
  refine ⟨by simp [Io.push, s.len], ?_, fun n a c e1 e2 => ?_, fun a m => ?_⟩
  · show (io.l ++ [p]).Nodup
    rw [List.nodup_append]
    exact ⟨s.nd, by simp, fun x hx y hy e => s.free h (.inl (by rw [← List.mem_singleton.mp hy, ← e]; exact hx))⟩
  · unfold Io.get Io.push at e1
    by_cases hn : n < io.l.length
    · rw [List.getElem?_append_left hn] at e1
      rw [List.getElem?_append_left (by rw [← s.len]; exact hn)] at e2
      refine (s.ob n a c e1 e2).ext (Ext.push s h o) ?_
      obtain ⟨u, e, _⟩ := (s.ob n a c e1 e2).some
      rw [upd_ne (ne_of_none e h)]
    · rw [List.getElem?_append_right (by omega)] at e1
      rw [List.getElem?_append_right (by rw [← s.len]; omega), ← s.len] at e2
      cases k : n - io.l.length with
      | zero => rw [k] at e1 e2; simp at e1 e2; subst e1 e2; exact hb
      | succ k => rw [k] at e1; simp at e1
  · obtain ⟨n, u, e, r⟩ := s.hs a m
    have ne := ne_of_none e h
    refine ⟨fun z => ?_, u, by rw [upd_ne ne]; exact e, r⟩
    rcases List.mem_append.mp z with z | z
    · exact n z
    · exact ne (List.mem_singleton.mp z)
/-- an object of the store is written -/
theorem Ext.write (s : StOk K H io st) {a : Addr} (h : a ∈ io.l) (o : HO) (n2 : ∀ f u, H a ≠ some (.frz f u)) : Ext io H io (upd H a o) := by
  obtain ⟨u, e, n1⟩ := s.has (.inl h)
  refine ⟨⟨[], by simp⟩, rfl, fun b v e2 m => by rw [upd_ne (show b ≠ a from fun z => m (by rw [z]; exact .inl h))]; exact e2, fun b m n => ⟨upd_ne (fun z => by subst z; exact n h), n⟩, fun b v e2 => ?_, fun b v w e2 => ?_, fun b h1 h2 => absurd h1 h2⟩
  · rw [upd_ne]
    · exact e2
    · rintro rfl
      rw [e] at e2
      exact n1 v (Option.some.inj e2)
  · rw [upd_ne]
    · exact e2
    · rintro rfl
      exact n2 v w e2
theorem Io.get_mem {n : Nat} {a : Addr} (h : io.get n = .some a) : a ∈ io.l := List.mem_of_getElem? h
theorem StOk.write (s : StOk K H io st) {n : Nat} {a : Addr} (h : io.get n = some a) {o : HO} {b : Ob} (n2 : ∀ f u, H a ≠ some (.frz f u)) (hb : ObAt K (upd H a o) io a b) : StOk K (upd H a o) io (st.set n b) := by
  refine ⟨by simp [s.len], s.nd, fun m c d e1 e2 => ?_, fun c m => ?_⟩
  · by_cases hm : m = n
    · subst hm
      rw [h] at e1; cases e1
      have hl : m < st.length := by rw [← s.len]; exact (List.getElem?_eq_some_iff.mp h).1
      rw [List.getElem?_set_self hl] at e2; cases e2
      exact hb
    · rw [List.getElem?_set_ne (Ne.symm hm)] at e2
      refine (s.ob m c d e1 e2).ext (Ext.write s (Io.get_mem h) o n2) ?_
      have hc : c ≠ a := fun e => hm (by
        subst e
        obtain ⟨h1, q1⟩ := List.getElem?_eq_some_iff.mp e1
        obtain ⟨h2, q2⟩ := List.getElem?_eq_some_iff.mp h
        exact (List.getElem_inj s.nd).mp (q1.trans q2.symm))
      rw [upd_ne hc]
  · obtain ⟨n', u, e, r⟩ := s.hs c m
    exact ⟨n', u, by rw [upd_ne (fun z => n' (by rw [z]; exact Io.get_mem h))]; exact e, r⟩
/-! what is hidden while a block runs -/
def Io.hide (io : Io) (p : Addr) : Io := ⟨io.l, p :: io.h⟩
theorem Mv.hide (h : H p = none) (o : HO) : Mv io H (io.hide p) (upd H p o) := ⟨fun _ _ e => e, fun a u e n => by
    have ne : a ≠ p := ne_of_none e h
    refine ⟨by rw [upd_ne ne]; exact e, fun m => ?_⟩
    rcases m with m | m
    · exact n (.inl m)
    · rcases List.mem_cons.mp m with m | m
      · exact ne m
      · exact n (.inr m), fun a u e => by rw [upd_ne (ne_of_none e h)]; exact e, fun a u w e => by rw [upd_ne (ne_of_none e h)]; exact e⟩
theorem StOk.hide (s : StOk K H io st) {p : Addr} (h : H p = none) {xs : List V} : StOk K (upd H p (.lst xs)) (io.hide p) st :=
  ⟨s.len, s.nd, fun n a b e1 e2 => (s.ob n a b e1 e2).mv (Mv.hide h _) (by
    obtain ⟨u, e, _⟩ := (s.ob n a b e1 e2).some
    rw [upd_ne (ne_of_none e h)]), fun a m => by
    rcases List.mem_cons.mp m with m | m
    · subst m
      exact ⟨fun z => s.free h (.inl z), _, upd_same, (by intro _ z; cases z)⟩
    · obtain ⟨n, u, e, r⟩ := s.hs a m
      exact ⟨n, u, by rw [upd_ne (ne_of_none e h)]; exact e, r⟩⟩
/-- what is hidden is written -/
theorem Mv.hidden {p : Addr} {xs : List V} (h : H p = some (.lst xs)) (o : HO) : Mv (io.hide p) H (io.hide p) (upd H p o) := ⟨fun _ _ e => e, fun a u e n => ⟨by rw [upd_ne (show a ≠ p from fun z => n (.inr (by rw [z]; exact List.mem_cons_self)))]; exact e, n⟩,
    fun a u e => by rw [upd_ne (ne_of e h (by intro z; cases z))]; exact e, fun a u w e => by rw [upd_ne (ne_of e h (by intro z; cases z))]; exact e⟩
theorem StOk.hidden {p : Addr} (s : StOk K H (io.hide p) st) {xs ys : List V} (h : H p = some (.lst xs)) : StOk K (upd H p (.lst ys)) (io.hide p) st :=
  ⟨s.len, s.nd, fun n a b e1 e2 => (s.ob n a b e1 e2).mv (Mv.hidden h _) (upd_ne (fun z => (s.hs p List.mem_cons_self).1 (by rw [← z]; exact Io.get_mem e1))), fun a m => by
    obtain ⟨n, u, e, r⟩ := s.hs a m
    refine ⟨n, ?_⟩
    by_cases z : a = p
    · subst z; exact ⟨_, upd_same, (by intro _ z; cases z)⟩
    · exact ⟨u, by rw [upd_ne z]; exact e, r⟩⟩
/-- it is hidden no more -/
theorem Mv.show_ {p : Addr} : Mv (io.hide p) H io H := ⟨fun _ _ e => e, fun a u e n => ⟨e, fun m => n (m.elim .inl fun m => .inr (List.mem_cons_of_mem _ m))⟩, fun _ _ e => e, fun _ _ _ e => e⟩
theorem StOk.show_ {p : Addr} (s : StOk K H (io.hide p) st) : StOk K H io st :=
  ⟨s.len, s.nd, fun n a b e1 e2 => (s.ob n a b e1 e2).mv Mv.show_ rfl, fun a m => s.hs a (List.mem_cons_of_mem _ m)⟩
theorem Mv.under {p : Addr} {i0 i1 : Io} {H0 H1 : Hp} (x : Mv i0 H0 i1 H1) (hp : H0 p = none) : Mv i0 H0 (i1.hide p) H1 := ⟨x.at_, fun a o h n => by
    obtain ⟨e, m⟩ := x.lst a o h n
    refine ⟨e, fun z => ?_⟩
    rcases z with z | z
    · exact m (.inl z)
    · rcases List.mem_cons.mp z with z | z
      · exact ne_of_none h hp z
      · exact m (.inr z), x.tups, x.frzs⟩
theorem Ext.poke {p : Addr} {i0 i1 : Io} {H0 H1 : Hp} (x : Ext i0 H0 i1 H1) (hp : H0 p = none) (hi : p ∉ i0) (o : HO) : Ext i0 H0 i1 (upd H1 p o) :=
  ⟨x.more, x.same, fun a u e n => by rw [upd_ne (ne_of_none e hp)]; exact x.keep a u e n, fun a m n => ⟨by rw [upd_ne (show a ≠ p from fun z => hi (by rw [← z]; exact .inr m))]; exact (x.hid a m n).1, (x.hid a m n).2⟩,
    fun a u e => by rw [upd_ne (ne_of_none e hp)]; exact x.tups a u e, fun a u w e => by rw [upd_ne (ne_of_none e hp)]; exact x.frzs a u w e, x.new⟩
/-- the outer heap's course, through a block's step -/
theorem Ext.under {p : Addr} {i0 i1 i2 : Io} {H0 H1 H2 : Hp} (x : Ext i0 H0 i1 H1) (hp : H0 p = none) (hi : p ∉ i0) (y : Ext (i1.hide p) H1 i2 H2) : Ext i0 H0 ⟨i2.l, i1.h⟩ H2 := by
  have out : ∀ a o, H0 a = some o → a ∉ i0 → a ∉ i1.hide p := fun a o h n m => by
    rcases m with m | m
    · exact x.out h n (.inl m)
    · rcases List.mem_cons.mp m with m | m
      · exact ne_of_none h hp m
      · exact x.out h n (.inr m)
  refine ⟨?_, x.same, fun a o h n => y.keep a o (x.keep a o h n) (out a o h n), fun a h n => ?_, fun a xs h => y.tups a xs (x.tups a xs h), fun a o u h => y.frzs a o u (x.frzs a o u h), fun a h3 n => ?_⟩
  · obtain ⟨t1, e1⟩ := x.more
    obtain ⟨t2, e2⟩ := y.more
    exact ⟨t1 ++ t2, by show i2.l = _; rw [e2]; show i1.l ++ t2 = _; rw [e1]; simp⟩
  · have q := x.hid a h n
    have q2 := y.hid a (List.mem_cons_of_mem _ (by rw [x.same]; exact h)) q.2
    exact ⟨q2.1.trans q.1, q2.2⟩
  · by_cases h1 : a ∈ i1
    · exact x.new a h1 n
    · by_cases hap : a = p
      · rw [hap]; exact hp
      · have h2 : a ∈ i2 := by
          rcases h3 with h3 | h3
          · exact .inl h3
          · exact absurd (.inr h3) h1
        have q := y.new a h2 (fun m => by
          rcases m with m | m
          · exact h1 (.inl m)
          · rcases List.mem_cons.mp m with m | m
            · exact hap m
            · exact h1 (.inr m))
        cases e : H0 a with
        | none => rfl
        | some o => rw [x.keep a o e n] at q; cases q
end

/-- the def's names -/
abbrev En := List (Option D)
def EnvR (K : PySem.W.Frag) (H : Hp) (io : Io) (en : En) (σ : St) : Prop := en.length = σ.length ∧ ∀ (i : Nat) (d : D), en[i]? = some (some d) → ∃ v, σ[i]? = some (some v) ∧ Rep K H io d v
theorem EnvR.ext {K : PySem.W.Frag} {H H' : Hp} {io io' : Io} {en : En} {σ : St} (x : Ext io H io' H') (h : EnvR K H io en σ) : EnvR K H' io' en σ :=
  ⟨h.1, fun i d e => let ⟨v, e1, r⟩ := h.2 i d e; ⟨v, e1, Rep.ext x d v r⟩⟩
theorem EnvR.mv {K : PySem.W.Frag} {H H' : Hp} {io io' : Io} {en : En} {σ : St} (x : Mv io H io' H') (h : EnvR K H io en σ) : EnvR K H' io' en σ :=
  ⟨h.1, fun i d e => let ⟨v, e1, r⟩ := h.2 i d e; ⟨v, e1, Rep.mv x d v r⟩⟩
theorem EnvR.set {K : PySem.W.Frag} {H : Hp} {io : Io} {en : En} {σ : St} (h : EnvR K H io en σ) {i : Nat} {d : D} {v : V} (r : Rep K H io d v) : EnvR K H io (en.set i (some d)) (σ.set i (some v)) := by
  refine ⟨by simp [h.1], fun j e q => ?_⟩
  by_cases hj : j = i
  · subst hj
    by_cases hl : j < en.length
    · rw [List.getElem?_set_self hl] at q; cases q
      exact ⟨v, List.getElem?_set_self (by rw [← h.1]; exact hl), r⟩
    · rw [List.getElem?_eq_none (by simpa using hl)] at q; cases q
  · rw [List.getElem?_set_ne (Ne.symm hj)] at q
    rw [List.getElem?_set_ne (Ne.symm hj)]
    exact h.2 j e q
theorem EnvR.clear {K : PySem.W.Frag} {H : Hp} {io : Io} {en : En} {σ : St} (h : EnvR K H io en σ) (i : Nat) : EnvR K H io (en.set i none) (σ.set i none) := by
  refine ⟨by simp [h.1], fun j e q => ?_⟩
  by_cases hj : j = i
  · subst hj
    by_cases hl : j < en.length
    · rw [List.getElem?_set_self hl] at q; cases q
    · rw [List.getElem?_eq_none (by simpa using hl)] at q; cases q
  · rw [List.getElem?_set_ne (Ne.symm hj)] at q
    rw [List.getElem?_set_ne (Ne.symm hj)]
    exact h.2 j e q
def wipeE (en : En) : List Nat → En
  | [] => en
  | v :: vs => (wipeE en vs).set v none
theorem EnvR.wipe {K : PySem.W.Frag} {H : Hp} {io : Io} {en : En} {σ : St} (h : EnvR K H io en σ) : ∀ vs : List Nat, EnvR K H io (wipeE en vs) (L2.wipe σ vs)
  | [] => h
  | v :: vs => (EnvR.wipe h vs).clear v
theorem EnvR.start {K : PySem.W.Frag} {H : Hp} {io : Io} {ds : List D} {vs : List V} (r : RepL K H io ds vs) (N : List Str) : EnvR K H io (ds.map some ++ List.replicate (N.length - ds.length) none) (L2.start N vs) := by
  unfold L2.start
  refine ⟨by simp [r.len], fun i d e => ?_⟩
  by_cases hi : i < ds.length
  · rw [List.getElem?_append_left (by simpa using hi), List.getElem?_map] at e
    have e' : ds[i]? = some d := by
      cases q : ds[i]? with
      | none => rw [q] at e; cases e
      | some z => rw [q] at e; cases e; rfl
    obtain ⟨v, h1, h2⟩ := r.at e'
    exact ⟨v, by rw [List.getElem?_append_left (by simpa using (List.getElem?_eq_some_iff.mp h1).1), List.getElem?_map, h1]; rfl, h2⟩
  · rw [List.getElem?_append_right (by simpa using hi), List.getElem?_replicate] at e
    split at e <;> cases e

/-- an exception -/
def ExAt (K : PySem.W.Frag) (H : Hp) (io : Io) (x : Ex) (c : Value) (dx : Option Addr) : Prop := c = .ref (He.ga K (nm x.cls)) ∧
  ((x.fs = [] ∧ x.vs = [] ∧ dx = none) ∨ ∃ (d : Addr) (xs : List V), dx = some d ∧ H d = some (.xd ((x.fs.map nm).zip xs)) ∧ d ∉ io ∧ x.fs.length = xs.length ∧ RepL K H io x.vs xs)
theorem ExAt.ext {K : PySem.W.Frag} {H H' : Hp} {io io' : Io} {y : Ex} {c : Value} {dx : Option Addr} (x : Ext io H io' H') (h : ExAt K H io y c dx) : ExAt K H' io' y c dx := by
  obtain ⟨h1, h2⟩ := h
  refine ⟨h1, h2.imp id ?_⟩
  rintro ⟨d, xs, e, q, n, l, r⟩
  exact ⟨d, xs, e, x.keep _ _ q n, x.out q n, l, RepL.ext x _ _ r⟩

/-- what is wanted behind a run -/
def Post (K : PySem.W.Frag) (io : Io) (H : Hp) (W : XK) {α β : Type} (Rp : Hp → Io → α → β → Prop) (r : R α) (Q : β → Hp → Prop) : Prop :=
  match r with
  | .ok d st' => ∀ (v : β) (io' : Io) (H' : Hp), Ext io H io' H' → StOk K H' io' st' → Rp H' io' d v → Q v H'
  | .exc x st' => ∀ (c : Value) (dx : Option Addr) (io' : Io) (H' : Hp), Ext io H io' H' → StOk K H' io' st' → ExAt K H' io' x c dx → W c dx H'
  | .bad => False
abbrev RpD (K : PySem.W.Frag) : Hp → Io → D → V → Prop := fun H io d v => Rep K H io d v
abbrev RpL (K : PySem.W.Frag) : Hp → Io → List D → List V → Prop := fun H io d v => RepL K H io d v
abbrev RpB : Hp → Io → Bool → Bool → Prop := fun _ _ d v => d = v
theorem Post.bind {K : PySem.W.Frag} {io : Io} {H : Hp} {W : XK} {α β α' β' : Type} {Rp : Hp → Io → α → β → Prop} {Rp' : Hp → Io → α' → β' → Prop} {r : R α} {f : α → Sto → R α'} {Q : β' → Hp → Prop}
    (h : Post K io H W Rp' (r.bind f) Q) : Post K io H W Rp r fun v H1 => ∃ d io1 st1, Ext io H io1 H1 ∧ StOk K H1 io1 st1 ∧ Rp H1 io1 d v ∧ Post K io1 H1 W Rp' (f d st1) Q := by
  cases r with
  | ok d st' =>
    intro v io' H' x s rp
    refine ⟨d, io', st', x, s, rp, ?_⟩
    have h' : Post K io H W Rp' (f d st') Q := h
    cases e : f d st' with
    | ok a st2 => rw [e] at h'; exact fun v2 io2 H2 x2 s2 r2 => h' v2 io2 H2 (x.trans x2) s2 r2
    | exc y st2 => rw [e] at h'; exact fun c dx io2 H2 x2 s2 r2 => h' c dx io2 H2 (x.trans x2) s2 r2
    | bad => rw [e] at h'; exact h'
  | exc y st' => exact h
  | bad => exact h
theorem Post.mono {K : PySem.W.Frag} {io : Io} {H : Hp} {W : XK} {α β : Type} {Rp : Hp → Io → α → β → Prop} {r : R α} {Q Q' : β → Hp → Prop} (h : Post K io H W Rp r Q)
    (hq : ∀ v H', Q v H' → Q' v H') : Post K io H W Rp r Q' := by
  cases r with
  | ok d st' => exact fun v io' H' x s rp => hq _ _ (h v io' H' x s rp)
  | exc y st' => exact h
  | bad => exact h
theorem Post.more {K : PySem.W.Frag} {io io' : Io} {H H' : Hp} {W : XK} {α β : Type} {Rp : Hp → Io → α → β → Prop} {r : R α} {Q : β → Hp → Prop} (x : Ext io H io' H') (h : Post K io H W Rp r Q) : Post K io' H' W Rp r Q := by
  cases r with
  | ok d st' => exact fun v i2 H2 x2 s rp => h v i2 H2 (x.trans x2) s rp
  | exc y st' => exact fun c dx i2 H2 x2 s rp => h c dx i2 H2 (x.trans x2) s rp
  | bad => exact h

/-- the readings -/
def tE (K : PySem.W.Frag) (W : WX) (m : En → Sto → R D) : TE := fun σ H Q => ∃ en st io, EnvR K H io en σ ∧ StOk K H io st ∧ Post K io H (fun c d H' => W c d σ H') (RpD K) (m en st) Q
def tT (K : PySem.W.Frag) (W : WX) (m : En → Sto → R Bool) : TT := fun σ H Q => ∃ en st io, EnvR K H io en σ ∧ StOk K H io st ∧ Post K io H (fun c d H' => W c d σ H') RpB (m en st) Q
def tA (K : PySem.W.Frag) (W : WX) (m : En → Sto → R (List D)) : TA := fun σ H Q => ∃ en st io, EnvR K H io en σ ∧ StOk K H io st ∧ Post K io H (fun c d H' => W c d σ H') (RpL K) (m en st) Q
end Mi

set_option maxRecDepth 100000
set_option maxHeartbeats 4000000
/-! a run apart: of the store the last places alone are lent, what is made there is laid behind the store -/
namespace Mi
open PySem PySem.Spec L2

mutual
/-- no place of the store below k stands in it -/
def lfk (k : Nat) : D → Bool
  | .loc n => Nat.ble k n
  | .tup ds => lfks k ds
  | .lst ds => lfks k ds
  | .fro ds => lfks k ds
  | .dct _ vs => lfks k vs
  | .dtu _ vs => lfks k vs
  | .tuq ds => lfks k ds
  | .xcp _ _ vs => lfks k vs
  | .non => true | .bl _ => true | .int _ => true | .str _ => true | .glo _ => true | .ty _ => true
def lfks (k : Nat) : List D → Bool
  | [] => true
  | d :: ds => lfk k d && lfks k ds
end
mutual
/-- no place of the store stands in it -/
def lf : D → Bool
  | .loc _ => false
  | .tup ds => lfs ds
  | .lst ds => lfs ds
  | .fro ds => lfs ds
  | .dct _ vs => lfs vs
  | .dtu _ vs => lfs vs
  | .tuq ds => lfs ds
  | .xcp _ _ vs => lfs vs
  | .non => true | .bl _ => true | .int _ => true | .str _ => true | .glo _ => true | .ty _ => true
def lfs : List D → Bool
  | [] => true
  | d :: ds => lf d && lfs ds
end
mutual
/-- the places by f -/
def mvD (f : Nat → Nat) : D → D
  | .loc n => .loc (f n)
  | .tup ds => .tup (mvDs f ds)
  | .lst ds => .lst (mvDs f ds)
  | .fro ds => .fro (mvDs f ds)
  | .dct ks vs => .dct ks (mvDs f vs)
  | .dtu ks vs => .dtu ks (mvDs f vs)
  | .tuq ds => .tuq (mvDs f ds)
  | .xcp c fs vs => .xcp c fs (mvDs f vs)
  | .non => .non | .bl b => .bl b | .int i => .int i | .str s => .str s | .glo x => .glo x | .ty n => .ty n
def mvDs (f : Nat → Nat) : List D → List D
  | [] => []
  | d :: ds => mvD f d :: mvDs f ds
end
def mvO (f : Nat → Nat) : Ob → Ob
  | .lst xs => .lst (mvDs f xs)
  | .frl xs => .frl (mvDs f xs)
  | .dct ks vs => .dct ks (mvDs f vs)
  | .frd ks vs => .frd ks (mvDs f vs)
  | .ins c fs vs => .ins c fs (mvDs f vs)
/-- moved on, moved back -/
abbrev sh (k : Nat) : D → D := mvD fun n => k + n
abbrev un (k : Nat) : D → D := mvD fun n => n - k
abbrev shO (k : Nat) : Ob → Ob := mvO fun n => k + n
abbrev unO (k : Nat) : Ob → Ob := mvO fun n => n - k
def lfO (k : Nat) : Ob → Bool
  | .lst xs => lfks k xs
  | .frl xs => lfks k xs
  | .dct _ vs => lfks k vs
  | .frd _ vs => lfks k vs
  | .ins _ _ vs => lfks k vs
/-- the names that are kept, the others unknown -/
def keepE (k : Nat) (vs : List Nat) (en : En) : Option En :=
  if ((en.mapIdx fun i o => if vs.contains i then o else none).all fun o => match o with
    | some d => lfk k d
    | none => true) = true then some ((en.mapIdx fun i o => if vs.contains i then o else none).map fun o => o.map (un k)) else none
def keepS (k : Nat) (st : Sto) : Option Sto := if (st.drop k).all (lfO k) = true then some ((st.drop k).map (unO k)) else none
def Io.inner (io : Io) (k : Nat) : Io := ⟨io.l.drop k, io.l.take k ++ io.h⟩
def Io.outer (io : Io) (k : Nat) (l : List Addr) : Io := ⟨io.l.take k ++ l, io.h⟩
section
variable {K : PySem.W.Frag} {H H1 : Hp} {io io1 : Io} {st st1 : Sto} {k : Nat}
theorem Io.mem_inner {a : Addr} : a ∈ io.inner k ↔ a ∈ io := by
  constructor
  · rintro (h | h)
    · exact .inl (List.mem_of_mem_drop h)
    · rcases List.mem_append.mp h with h | h
      · exact .inl (List.mem_of_mem_take h)
      · exact .inr h
  · rintro (h | h)
    · rw [← List.take_append_drop k io.l] at h
      rcases List.mem_append.mp h with h | h
      · exact .inr (List.mem_append_left _ h)
      · exact .inl h
    · exact .inr (List.mem_append_right _ h)
theorem FroAt.inner {a : Addr} {xs : List V} (h : FroAt K H io a xs) : FroAt K H (io.inner k) a xs := h.imp (fun ⟨o, e, n⟩ => ⟨o, e, fun m => n (Io.mem_inner.mp m)⟩) id
theorem LstAt.inner {a : Addr} {xs : List V} (h : LstAt H io a xs) : LstAt H (io.inner k) a xs := ⟨h.1, fun m => h.2 (Io.mem_inner.mp m)⟩
theorem TuqAt.inner {a : Addr} {xs : List V} (h : TuqAt H io a xs) : TuqAt H (io.inner k) a xs := by
  obtain ⟨o, e, n, c⟩ := h
  exact ⟨o, e, fun m => n (Io.mem_inner.mp m), c⟩
theorem XcpAt.inner {a C : Addr} {fs : List (Str × V)} (h : XcpAt H io a C fs) : XcpAt H (io.inner k) a C fs := by
  rcases h with ⟨d, h, n, h2, n2⟩ | ⟨h, n, e⟩
  · exact .inl ⟨d, h, fun m => n (Io.mem_inner.mp m), h2, fun m => n2 (Io.mem_inner.mp m)⟩
  · exact .inr ⟨h, fun m => n (Io.mem_inner.mp m), e⟩
mutual
theorem Rep.inner : ∀ (d : D) (v : V), Rep K H io d v → lfk k d = true → Rep K H (io.inner k) (un k d) v
  | .non, _, h, _ => h
  | .bl _, _, h, _ => h
  | .int _, _, h, _ => h
  | .str _, _, h, _ => h
  | .glo _, _, h, _ => h
  | .ty _, _, h, _ => h
  | .loc n, _, ⟨a, h, q⟩, e => ⟨a, by
    have e' : k ≤ n := Nat.le_of_ble_eq_true e
    unfold Io.get at h ⊢
    unfold Io.inner
    show (io.l.drop k)[n - k]? = _
    rw [List.getElem?_drop, Nat.add_sub_cancel' e']
    exact h, q⟩
  | .tup ds, _, ⟨a, xs, e, s, r⟩, l => ⟨a, xs, e, s, RepL.inner ds xs r l⟩
  | .lst ds, _, ⟨a, xs, e, s, r⟩, l => ⟨a, xs, e, s.inner, RepL.inner ds xs r l⟩
  | .fro ds, _, ⟨a, xs, e, s, r⟩, l => ⟨a, xs, e, s.inner, RepL.inner ds xs r l⟩
  | .dct _ ds, _, ⟨a, xs, e, ⟨o, s, z⟩, n, r⟩, l => ⟨a, xs, e, ⟨o, s, fun m => z (Io.mem_inner.mp m)⟩, n, RepL.inner ds xs r l⟩
  | .dtu _ ds, _, ⟨a, xs, e, ⟨o, s, z⟩, n, r⟩, l => ⟨a, xs, e, ⟨o, s, fun m => z (Io.mem_inner.mp m)⟩, n, RepL.inner ds xs r l⟩
  | .tuq ds, _, ⟨a, xs, e, s, r⟩, l => ⟨a, xs, e, s.inner, RepL.inner ds xs r l⟩
  | .xcp _ _ ds, _, ⟨a, xs, e, s, n, r⟩, l => ⟨a, xs, e, s.inner, n, RepL.inner ds xs r l⟩
theorem RepL.inner : ∀ (ds : List D) (xs : List V), RepL K H io ds xs → lfks k ds = true → RepL K H (io.inner k) (mvDs (fun n => n - k) ds) xs
  | [], _, h, _ => h
  | d :: ds, _, ⟨x, r, e, h1, h2⟩, l => by
    have l' : (lfk k d && lfks k ds) = true := l
    rw [Bool.and_eq_true] at l'
    exact ⟨x, r, e, Rep.inner d x h1 l'.1, RepL.inner ds r h2 l'.2⟩
end
theorem Io.mem_outer (e : io1.h = io.l.take k ++ io.h) {a : Addr} : a ∈ io.outer k io1.l ↔ a ∈ io1 := by
  constructor
  · rintro (h | h)
    · rcases List.mem_append.mp h with h | h
      · exact .inr (by rw [e]; exact List.mem_append_left _ h)
      · exact .inl h
    · exact .inr (by rw [e]; exact List.mem_append_right _ h)
  · rintro (h | h)
    · exact .inl (List.mem_append_right _ h)
    · rw [e] at h
      rcases List.mem_append.mp h with h | h
      · exact .inl (List.mem_append_left _ h)
      · exact .inr h
theorem TuqAt.outer (e : io1.h = io.l.take k ++ io.h) {a : Addr} {xs : List V} (h : TuqAt H io1 a xs) : TuqAt H (io.outer k io1.l) a xs := by
  obtain ⟨o, q, n, c⟩ := h
  exact ⟨o, q, fun m => n ((Io.mem_outer e).mp m), c⟩
theorem XcpAt.outer (e : io1.h = io.l.take k ++ io.h) {a C : Addr} {fs : List (Str × V)} (h : XcpAt H io1 a C fs) : XcpAt H (io.outer k io1.l) a C fs := by
  rcases h with ⟨d, h, n, h2, n2⟩ | ⟨h, n, q⟩
  · exact .inl ⟨d, h, fun m => n ((Io.mem_outer e).mp m), h2, fun m => n2 ((Io.mem_outer e).mp m)⟩
  · exact .inr ⟨h, fun m => n ((Io.mem_outer e).mp m), q⟩
mutual
theorem Rep.outer (e : io1.h = io.l.take k ++ io.h) (hk : k ≤ io.l.length) : ∀ (d : D) (v : V), Rep K H io1 d v → Rep K H (io.outer k io1.l) (sh k d) v
  | .non, _, h => h
  | .bl _, _, h => h
  | .int _, _, h => h
  | .str _, _, h => h
  | .glo _, _, h => h
  | .ty _, _, h => h
  | .loc n, _, ⟨a, h, q⟩ => ⟨a, by
    have hl : (io.l.take k).length = k := by rw [List.length_take]; omega
    unfold Io.get at h ⊢
    unfold Io.outer
    show (io.l.take k ++ io1.l)[k + n]? = _
    rw [List.getElem?_append_right (by omega), hl, Nat.add_sub_cancel_left]
    exact h, q⟩
  | .tup ds, _, ⟨a, xs, q, s, r⟩ => ⟨a, xs, q, s, RepL.outer e hk ds xs r⟩
  | .lst ds, _, ⟨a, xs, q, s, r⟩ => ⟨a, xs, q, ⟨s.1, fun m => s.2 ((Io.mem_outer e).mp m)⟩, RepL.outer e hk ds xs r⟩
  | .fro ds, _, ⟨a, xs, q, s, r⟩ => ⟨a, xs, q, s.imp (fun ⟨o, z, n⟩ => ⟨o, z, fun m => n ((Io.mem_outer e).mp m)⟩) id, RepL.outer e hk ds xs r⟩
  | .dct _ ds, _, ⟨a, xs, q, ⟨o, s, z⟩, n, r⟩ => ⟨a, xs, q, ⟨o, s, fun m => z ((Io.mem_outer e).mp m)⟩, n, RepL.outer e hk ds xs r⟩
  | .dtu _ ds, _, ⟨a, xs, q, ⟨o, s, z⟩, n, r⟩ => ⟨a, xs, q, ⟨o, s, fun m => z ((Io.mem_outer e).mp m)⟩, n, RepL.outer e hk ds xs r⟩
  | .tuq ds, _, ⟨a, xs, q, s, r⟩ => ⟨a, xs, q, s.outer e, RepL.outer e hk ds xs r⟩
  | .xcp _ _ ds, _, ⟨a, xs, q, s, n, r⟩ => ⟨a, xs, q, s.outer e, n, RepL.outer e hk ds xs r⟩
theorem RepL.outer (e : io1.h = io.l.take k ++ io.h) (hk : k ≤ io.l.length) : ∀ (ds : List D) (xs : List V), RepL K H io1 ds xs → RepL K H (io.outer k io1.l) (mvDs (fun n => k + n) ds) xs
  | [], _, h => h
  | d :: ds, _, ⟨x, r, q, h1, h2⟩ => ⟨x, r, q, Rep.outer e hk d x h1, RepL.outer e hk ds r h2⟩
end
theorem mvDs_len (f : Nat → Nat) : ∀ ds : List D, (mvDs f ds).length = ds.length
  | [] => rfl
  | d :: ds => by show (mvDs f ds).length + 1 = _; rw [mvDs_len f ds]; rfl
theorem ObAt.inner {a : Addr} {b : Ob} (h : ObAt K H io a b) (l : lfO k b = true) : ObAt K H (io.inner k) a (unO k b) := by
  cases b with
  | lst ds => obtain ⟨xs, q, r⟩ := h; exact ⟨xs, q, RepL.inner _ _ r l⟩
  | frl ds => obtain ⟨o, xs, q, r⟩ := h; exact ⟨o, xs, q, RepL.inner _ _ r l⟩
  | dct ks ds => obtain ⟨xs, q, n, r⟩ := h; exact ⟨xs, q, n, RepL.inner _ _ r l⟩
  | frd ks ds => obtain ⟨o, xs, q, n, r⟩ := h; exact ⟨o, xs, q, n, RepL.inner _ _ r l⟩
  | ins c fs ds => obtain ⟨b, dx, xs, q, n, r⟩ := h; exact ⟨b, dx, xs, q, n, RepL.inner _ _ r l⟩
theorem ObAt.outer (e : io1.h = io.l.take k ++ io.h) (hk : k ≤ io.l.length) {a : Addr} {b : Ob} (h : ObAt K H io1 a b) : ObAt K H (io.outer k io1.l) a (shO k b) := by
  cases b with
  | lst ds => obtain ⟨xs, q, r⟩ := h; exact ⟨xs, q, RepL.outer e hk _ _ r⟩
  | frl ds => obtain ⟨o, xs, q, r⟩ := h; exact ⟨o, xs, q, RepL.outer e hk _ _ r⟩
  | dct ks ds => obtain ⟨xs, q, l, r⟩ := h; exact ⟨xs, q, l, RepL.outer e hk _ _ r⟩
  | frd ks ds => obtain ⟨o, xs, q, l, r⟩ := h; exact ⟨o, xs, q, l, RepL.outer e hk _ _ r⟩
  | ins c fs ds => obtain ⟨b, dx, xs, q, l, r⟩ := h; exact ⟨b, dx, xs, q, l, RepL.outer e hk _ _ r⟩
theorem take_drop_out {l : List Addr} (nd : l.Nodup) {a : Addr} (h : a ∈ l.take k) : a ∉ l.drop k := fun z => by
  rw [← List.take_append_drop k l, List.nodup_append] at nd
  exact nd.2.2 a h a z rfl
theorem StOk.inner (s : StOk K H io st) {st0 : Sto} (h : keepS k st = some st0) : StOk K H (io.inner k) st0 := by
  unfold keepS at h
  split at h
  · rename_i hl
    cases h
    refine ⟨?_, s.nd.sublist (List.drop_sublist _ _), fun n a b e1 e2 => ?_, fun a m => ?_⟩
    · show (io.l.drop k).length = _
      rw [List.length_map, List.length_drop, List.length_drop, s.len]
    · have e1' : io.get (k + n) = some a := by
        have z : (io.l.drop k)[n]? = some a := e1
        rw [List.getElem?_drop] at z
        exact z
      rw [List.getElem?_map, List.getElem?_drop] at e2
      cases q : st[k + n]? with
      | none => rw [q] at e2; cases e2
      | some b0 =>
        rw [q] at e2
        cases e2
        exact (s.ob _ a b0 e1' q).inner (List.all_eq_true.mp hl b0 (List.mem_of_getElem? (i := n) (by rw [List.getElem?_drop]; exact q)))
    · rcases List.mem_append.mp m with m | m
      · exact ⟨take_drop_out s.nd m, s.has (.inl (List.mem_of_mem_take m))⟩
      · exact ⟨fun z => (s.hs a m).1 (List.mem_of_mem_drop z), s.has (.inr m)⟩
  · cases h
theorem Ext.outer (s : StOk K H io st) (x : Ext (io.inner k) H io1 H1) : Ext io H (io.outer k io1.l) H1 := by
  have e : io1.h = io.l.take k ++ io.h := x.same
  obtain ⟨t, et⟩ := x.more
  have et' : io1.l = io.l.drop k ++ t := et
  refine ⟨⟨t, ?_⟩, rfl, fun a o h n => x.keep a o h fun m => n (Io.mem_inner.mp m), fun a m n => ?_, x.tups, x.frzs, fun a m n => x.new a ((Io.mem_outer e).mp m) fun z => n (Io.mem_inner.mp z)⟩
  · show io.l.take k ++ io1.l = _
    rw [et', ← List.append_assoc, List.take_append_drop]
  · have q := x.hid a (List.mem_append_right _ m) (fun z => n (List.mem_of_mem_drop z))
    exact ⟨q.1, fun z => (List.mem_append.mp z).elim (fun z => n (List.mem_of_mem_take z)) q.2⟩
theorem StOk.outer (s : StOk K H io st) (hk : k ≤ st.length) (x : Ext (io.inner k) H io1 H1) (s1 : StOk K H1 io1 st1) : StOk K H1 (io.outer k io1.l) (st.take k ++ st1.map (shO k)) := by
  have e : io1.h = io.l.take k ++ io.h := x.same
  have hk' : k ≤ io.l.length := by rw [s.len]; exact hk
  have hl : (io.l.take k).length = k := by rw [List.length_take]; omega
  have hl2 : (st.take k).length = k := by rw [List.length_take]; omega
  have hid : ∀ a, a ∈ io.l.take k → H1 a = H a ∧ a ∉ io1.l := fun a m => x.hid a (List.mem_append_left _ m) (take_drop_out s.nd m)
  have y := Ext.outer s x
  refine ⟨by show (io.l.take k ++ io1.l).length = _; rw [List.length_append, List.length_append, List.length_map, hl, hl2, s1.len], ?_, fun n a b e1 e2 => ?_, fun a m => ?_⟩
  · show (io.l.take k ++ io1.l).Nodup
    rw [List.nodup_append]
    exact ⟨s.nd.sublist (List.take_sublist _ _), s1.nd, fun a h b h2 z => (hid a h).2 (by rw [z]; exact h2)⟩
  · have e1' : (io.l.take k ++ io1.l)[n]? = some a := e1
    by_cases hn : n < k
    · rw [List.getElem?_append_left (by omega)] at e1'
      rw [List.getElem?_append_left (by omega), List.getElem?_take_of_lt hn] at e2
      have m := List.mem_of_getElem? e1'
      rw [List.getElem?_take_of_lt hn] at e1'
      exact (s.ob n a b e1' e2).ext y (hid a m).1
    · rw [List.getElem?_append_right (by omega), hl] at e1'
      rw [List.getElem?_append_right (by omega), List.getElem?_map, hl2] at e2
      cases q : st1[n - k]? with
      | none => rw [q] at e2; cases e2
      | some b1 =>
        rw [q] at e2
        cases e2
        exact (s1.ob _ a b1 e1' q).outer e hk'
  · obtain ⟨n, u, q, r⟩ := s.hs a m
    have h := x.hid a (List.mem_append_right _ m) (fun z => n (List.mem_of_mem_drop z))
    exact ⟨fun z => (List.mem_append.mp z).elim (fun z => n (List.mem_of_mem_take z)) h.2, u, by rw [h.1]; exact q, r⟩
theorem keepE_ok {en en0 : En} {vs : List Nat} {σ : St} (h : keepE k vs en = some en0) (er : EnvR K H io en σ) : EnvR K H (io.inner k) en0 σ := by
  unfold keepE at h
  split at h
  · rename_i hl
    cases h
    refine ⟨by rw [List.length_map, List.length_mapIdx]; exact er.1, fun i d e => ?_⟩
    rw [List.getElem?_map, List.getElem?_mapIdx] at e
    cases q : en[i]? with
    | none => rw [q] at e; cases e
    | some o =>
      rw [q] at e
      simp only [Option.map_some, Option.some.injEq] at e
      split at e
      · rename_i hv
        cases o with
        | none => cases e
        | some d0 =>
          cases e
          obtain ⟨v, e1, r⟩ := er.2 i d0 q
          refine ⟨v, e1, Rep.inner d0 v r ?_⟩
          exact List.all_eq_true.mp hl (some d0) (List.mem_of_getElem? (i := i) (by rw [List.getElem?_mapIdx, q]; simp only [Option.map_some, hv, if_true]))
      · cases e
  · cases h
end
mutual
theorem lf_mv (f : Nat → Nat) : ∀ d : D, lf d = true → mvD f d = d
  | .non, _ => rfl
  | .bl _, _ => rfl
  | .int _, _ => rfl
  | .str _, _ => rfl
  | .glo _, _ => rfl
  | .ty _, _ => rfl
  | .loc _, e => by cases e
  | .tup ds, h => by show D.tup (mvDs f ds) = _; rw [lfs_mv f ds h]
  | .lst ds, h => by show D.lst (mvDs f ds) = _; rw [lfs_mv f ds h]
  | .fro ds, h => by show D.fro (mvDs f ds) = _; rw [lfs_mv f ds h]
  | .dct ks ds, h => by show D.dct ks (mvDs f ds) = _; rw [lfs_mv f ds h]
  | .dtu ks ds, h => by show D.dtu ks (mvDs f ds) = _; rw [lfs_mv f ds h]
  | .tuq ds, h => by show D.tuq (mvDs f ds) = _; rw [lfs_mv f ds h]
  | .xcp c fs ds, h => by show D.xcp c fs (mvDs f ds) = _; rw [lfs_mv f ds h]
theorem lfs_mv (f : Nat → Nat) : ∀ ds : List D, lfs ds = true → mvDs f ds = ds
  | [], _ => rfl
  | d :: ds, h => by
    have h' : (lf d && lfs ds) = true := h
    rw [Bool.and_eq_true] at h'
    show mvD f d :: mvDs f ds = _
    rw [lf_mv f d h'.1, lfs_mv f ds h'.2]
end
end Mi

set_option maxRecDepth 100000
set_option maxHeartbeats 4000000
namespace Mi
open PySem PySem.Spec L2

/-! ### == -/
def deqL (f : D → D → Option Bool) : List D → List D → Option Bool
  | [], [] => some true
  | [], _ :: _ => some false
  | _ :: _, [] => some false
  | a :: as, b :: bs => match f a b, deqL f as bs with
    | some x, some y => some (x && y)
    | _, _ => none
def kd : D → Nat
  | .non => 0 | .bl _ => 1 | .int _ => 2 | .str _ => 3 | .tup _ => 4 | .lst _ => 5 | .fro _ => 5
  | .dct _ _ => 9 | .dtu _ _ => 9 | .loc _ => 9 | .glo _ => 9 | .ty _ => 9 | .tuq _ => 9 | .xcp _ _ _ => 9
def deq : Nat → D → D → Option Bool
  | _, .non, .non => some true
  | _, .bl a, .bl b => some (a == b)
  | _, .int a, .int b => some (a == b)
  | _, .str a, .str b => some (a == b)
  | _, .bl a, .int b => some ((if a then 1 else 0) == b)
  | _, .int a, .bl b => some (a == (if b then 1 else 0))
  | n + 1, .tup a, .tup b => deqL (deq n) a b
  | n + 1, .lst a, .lst b => deqL (deq n) a b
  | n + 1, .lst a, .fro b => deqL (deq n) a b
  | n + 1, .fro a, .lst b => deqL (deq n) a b
  | n + 1, .fro a, .fro b => deqL (deq n) a b
  | _, d, e => if kd d < 9 ∧ kd e < 9 ∧ kd d ≠ kd e then some false else none


theorem deqL_at {f : D → D → Option Bool} : ∀ {ds es : List D} {b : Bool}, deqL f ds es = some b → ∀ (j : Nat) (d e : D), ds[j]? = some d → es[j]? = some e → ∃ x, f d e = some x
  | [], _, _, _, j, _, _, h1, _ => by simp at h1
  | _ :: _, [], _, _, j, _, _, _, h2 => by simp at h2
  | a :: as, c :: cs, b, h, j, d, e, h1, h2 => by
    unfold deqL at h
    cases q1 : f a c with
    | none => rw [q1] at h; cases h
    | some x =>
      cases q2 : deqL f as cs with
      | none => rw [q1, q2] at h; cases h
      | some y =>
        cases j with
        | zero => simp at h1 h2; subst h1 h2; exact ⟨x, q1⟩
        | succ j => exact deqL_at q2 j d e (by simpa using h1) (by simpa using h2)
/-- the answer at a place -/
def eAt (f : D → D → Option Bool) (ds es : List D) (j : Nat) : Bool := match ds[j]?, es[j]? with
  | some d, some e => (f d e).getD false
  | _, _ => false
theorem deqL_all {f : D → D → Option Bool} : ∀ {ds es : List D} {b : Bool}, deqL f ds es = some b → b = ((List.range (min ds.length es.length)).all (eAt f ds es) && ds.length == es.length)
  | [], [], _, h => by cases h; simp
  | [], _ :: _, _, h => by cases h; simp
  | _ :: _, [], _, h => by cases h; simp
  | a :: as, c :: cs, b, h => by
    unfold deqL at h
    cases q1 : f a c with
    | none => rw [q1] at h; cases h
    | some x =>
      cases q2 : deqL f as cs with
      | none => rw [q1, q2] at h; cases h
      | some y =>
        rw [q1, q2] at h
        have h' : (x && y) = b := Option.some.inj h
        have e2 := deqL_all q2
        have e1 : min (a :: as).length (c :: cs).length = min as.length cs.length + 1 := by simp only [List.length_cons]; omega
        rw [e1, List.range_succ_eq_map, List.all_cons, List.all_map]
        have e3 : eAt f (a :: as) (c :: cs) 0 = x := by simp [eAt, q1]
        have e4 : (eAt f (a :: as) (c :: cs)) ∘ Nat.succ = eAt f as cs := by funext j; simp [eAt]
        have e5 : ((a :: as).length == (c :: cs).length) = (as.length == cs.length) := by simp
        rw [e3, e4, e5, ← h', e2, Bool.and_assoc]
section
variable {X : Cx} {pins : List (Addr × Obj)} {σ : St} {H : Hp} {s : Shared} {io : Io}
theorem lst_sql {K : PySem.W.Frag} {a : Addr} {xs : List V} (h : LstAt H io a xs) : SqL K H a xs := .inl (.inl h.1)
theorem no_both (I : Inv X pins σ H s) {a : Addr} {xs ys : List V} (h : SqT X.K H a xs) (g : SqL X.K H a ys) : False := by
  obtain ⟨_, _, ⟨o, e, c, _⟩, _⟩ := I.tuple h
  obtain ⟨_, _, ⟨o', n, e', c', _⟩, _⟩ := I.list g
  rw [e] at e'; cases e'
  rw [c] at c'
  simp at c'
/-- a sequence: its kind, its items -/
inductive IsSq (K : PySem.W.Frag) (H : Hp) (io : Io) : D → Bool → List D → V → Prop
  | tup {ds : List D} {a : Addr} {xs : List V} : SqT K H a xs → RepL K H io ds xs → IsSq K H io (.tup ds) true ds (.ref a)
  | lst {ds : List D} {a : Addr} {xs : List V} : SqL K H a xs → RepL K H io ds xs → IsSq K H io (.lst ds) false ds (.ref a)
  | fro {ds : List D} {a : Addr} {xs : List V} : SqL K H a xs → RepL K H io ds xs → IsSq K H io (.fro ds) false ds (.ref a)
inductive Sc : D → V → Prop
  | non : Sc .non .non
  | bl (b : Bool) : Sc (.bl b) (.bl b)
  | int (i : Int) : Sc (.int i) (.int i)
  | str (x : List Nat) : Sc (.str x) (.str ⟨x.toArray⟩)
theorem Rep.split {K : PySem.W.Frag} {d : D} {v : V} (h : Rep K H io d v) (hk : kd d < 9) : Sc d v ∨ ∃ t ds, IsSq K H io d t ds v := by
  cases d with
  | non => cases h; exact .inl .non
  | bl b => cases h; exact .inl (.bl b)
  | int b => cases h; exact .inl (.int b)
  | str b => cases h; exact .inl (.str b)
  | tup ds => obtain ⟨a, xs, rfl, p, r⟩ := h; exact .inr ⟨_, _, .tup (.of p) r⟩
  | lst ds => obtain ⟨a, xs, rfl, p, r⟩ := h; exact .inr ⟨_, _, .lst (lst_sql p) r⟩
  | fro ds => obtain ⟨a, xs, rfl, p, r⟩ := h; exact .inr ⟨_, _, .fro p.sql r⟩
  | dct _ _ => exact absurd hk (by simp [kd])
  | dtu _ _ => exact absurd hk (by simp [kd])
  | loc _ => exact absurd hk (by simp [kd])
  | glo _ => exact absurd hk (by simp [kd])
  | ty _ => exact absurd hk (by simp [kd])
  | tuq _ => exact absurd hk (by simp [kd])
  | xcp _ _ _ => exact absurd hk (by simp [kd])
theorem IsSq.addr {K : PySem.W.Frag} {d : D} {t : Bool} {ds : List D} {v : V} (h : IsSq K H io d t ds v) : ∃ a xs, v = .ref a ∧ RepL K H io ds xs ∧ ((t = true ∧ SqT K H a xs) ∨ (t = false ∧ SqL K H a xs)) := by
  cases h with
  | tup p r => exact ⟨_, _, rfl, r, .inl ⟨rfl, p⟩⟩
  | lst p r => exact ⟨_, _, rfl, r, .inr ⟨rfl, p⟩⟩
  | fro p r => exact ⟨_, _, rfl, r, .inr ⟨rfl, p⟩⟩
theorem IsSq.same (I : Inv X pins σ H s) {d e : D} {t u : Bool} {ds es : List D} {v : V} (h : IsSq X.K H io d t ds v) (g : IsSq X.K H io e u es v) : t = u ∧ ∃ xs, RepL X.K H io ds xs ∧ RepL X.K H io es xs := by
  obtain ⟨a, xs, rfl, r, p⟩ := h.addr
  obtain ⟨a', ys, e, r', q⟩ := g.addr
  cases e
  rcases p with ⟨rfl, p⟩ | ⟨rfl, p⟩ <;> rcases q with ⟨rfl, q⟩ | ⟨rfl, q⟩
  · have z := I.tuple_inj p q
    subst z
    exact ⟨rfl, xs, r, r'⟩
  · exact (no_both I p q).elim
  · exact (no_both I q p).elim
  · have z := I.list_inj p q
    subst z
    exact ⟨rfl, xs, r, r'⟩
theorem deq_kd {n : Nat} {d e : D} {b : Bool} (h : deq n d e = some b) : kd d < 9 ∧ kd e < 9 := by
  cases d <;> cases e <;> cases n <;> simp [deq, kd] at h ⊢
/-- of two sequences -/
theorem deq_sq {K : PySem.W.Frag} {n : Nat} {d e : D} {b : Bool} {t u : Bool} {ds es : List D} {v w : V} (h : deq n d e = some b) (h1 : IsSq K H io d t ds v) (h2 : IsSq K H io e u es w) :
    (t ≠ u ∧ b = false) ∨ (t = u ∧ ∃ m, n = m + 1 ∧ deqL (deq m) ds es = some b) := by
  cases n with
  | zero => cases h1 <;> cases h2 <;> simp [deq, kd] at h <;> simp [h]
  | succ m => cases h1 <;> cases h2 <;> simp [deq, kd] at h <;> simp [h]
theorem deq_sc_sq {K : PySem.W.Frag} {n : Nat} {d e : D} {b : Bool} {u : Bool} {es : List D} {v w : V} (h : deq n d e = some b) (h1 : Sc d v) (h2 : IsSq K H io e u es w) : b = false := by
  cases h1 <;> cases h2 <;> cases n <;> simp [deq, kd] at h <;> exact h
theorem deq_sq_sc {K : PySem.W.Frag} {n : Nat} {d e : D} {b : Bool} {u : Bool} {es : List D} {v w : V} (h : deq n d e = some b) (h1 : IsSq K H io d u es w) (h2 : Sc e v) : b = false := by
  cases h1 <;> cases h2 <;> cases n <;> simp [deq, kd] at h <;> exact h
/-- the one value bears both: they are equal -/
theorem deq_same (I : Inv X pins σ H s) : ∀ (n : Nat) (d e : D) (b : Bool) (v : V), deq n d e = some b → Rep X.K H io d v → Rep X.K H io e v → b = true := by
  intro n
  induction n using Nat.strongRecOn with
  | _ n ih =>
    have sq : ∀ (m : Nat), m < n → ∀ (ds es : List D) (xs : List V) (b : Bool), deqL (deq m) ds es = some b → RepL X.K H io ds xs → RepL X.K H io es xs → b = true := by
      intro m hm ds
      induction ds with
      | nil =>
        intro es xs b h r1 r2
        cases r1
        cases es with
        | nil => cases h; rfl
        | cons e es => obtain ⟨_, _, z, _⟩ := r2; cases z
      | cons d ds ihd =>
        intro es xs b h r1 r2
        obtain ⟨x, xr, rfl, p1, p2⟩ := r1
        cases es with
        | nil => cases r2
        | cons e es =>
          obtain ⟨_, _, z, q1, q2⟩ := r2
          cases z
          unfold deqL at h
          cases k1 : deq m d e with
          | none => rw [k1] at h; cases h
          | some x1 =>
            cases k2 : deqL (deq m) ds es with
            | none => rw [k1, k2] at h; cases h
            | some y1 =>
              rw [k1, k2] at h
              rw [ih m hm d e x1 _ k1 p1 q1, ihd es _ y1 k2 p2 q2] at h
              cases h; rfl
    intro d e b v h r1 r2
    obtain ⟨k1, k2⟩ := deq_kd h
    rcases r1.split k1 with s1 | ⟨t, ds, s1⟩ <;> rcases r2.split k2 with s2 | ⟨u, es, s2⟩
    · cases s1 <;> cases s2 <;> cases n <;> simp [deq] at h <;> exact h
    · cases s1 <;> cases s2
    · cases s1 <;> cases s2
    · obtain ⟨e1, xs, p1, p2⟩ := s1.same I s2
      rcases deq_sq h s1 s2 with ⟨ne, _⟩ | ⟨_, m, rfl, hl⟩
      · exact absurd e1 ne
      · exact sq m (Nat.lt_succ_self m) ds es xs b hl p1 p2

abbrev EqAll (A : Around) (s : Shared) (u1 u2 : Value) (b : Bool) : Prop := SeqAt.RcAt A s u1 u2 b ∧ SeqAt.RcNeAt A s u1 u2 (!b) ∧ SeqAt.EqAt A s u1 u2 b
open SeqAt in
theorem eq_sc {A : Around} {n : Nat} {d e : D} {b : Bool} {v w : V} {u1 u2 : Value} (h : deq n d e = some b) (h1 : Sc d v) (h2 : Sc e w) (r1 : RelV v u1) (r2 : RelV w u2) : EqAll A s u1 u2 b := by
  cases h1 with
  | non =>
    cases r1
    cases h2 with
    | non => cases r2; cases n <;> (simp only [deq, Option.some.injEq] at h; subst h; exact ⟨.none_none, .none_none, .same _⟩)
    | bl c => cases r2; cases n <;> (simp [deq, kd] at h; subst h; exact ⟨.none_bool _, .none_bool _, .none_bool _⟩)
    | int c => obtain ⟨t, rfl⟩ := r2; cases n <;> (simp [deq, kd] at h; subst h; exact ⟨.none_int _ _, .none_int _ _, .none_int _ _⟩)
    | str c => obtain ⟨t, rfl⟩ := r2; cases n <;> (simp [deq, kd] at h; subst h; exact ⟨.none_str _ _, .none_str _ _, .none_str _ _⟩)
  | bl a =>
    cases r1
    cases h2 with
    | non => cases r2; cases n <;> (simp [deq, kd] at h; subst h; exact ⟨.bool_none _, .bool_none _, .bool_none _⟩)
    | bl c => cases r2; cases n <;> (simp only [deq, Option.some.injEq] at h; subst h; exact ⟨.bool_bool _ _, .bool_bool _ _, .bool_bool _ _⟩)
    | int c => obtain ⟨t, rfl⟩ := r2; cases n <;> (simp only [deq, Option.some.injEq] at h; subst h; exact ⟨.bool_int _ _ _, .bool_int _ _ _, .bool_int _ _ _⟩)
    | str c => obtain ⟨t, rfl⟩ := r2; cases n <;> (simp [deq, kd] at h; subst h; exact ⟨.bool_str _ _ _, .bool_str _ _ _, .bool_str _ _ _⟩)
  | int a =>
    obtain ⟨t1, rfl⟩ := r1
    cases h2 with
    | non => cases r2; cases n <;> (simp [deq, kd] at h; subst h; exact ⟨.int_none _ _, .int_none _ _, .int_none _ _⟩)
    | bl c => cases r2; cases n <;> (simp only [deq, Option.some.injEq] at h; subst h; exact ⟨.int_bool _ _ _, .int_bool _ _ _, .int_bool _ _ _⟩)
    | int c => obtain ⟨t, rfl⟩ := r2; cases n <;> (simp only [deq, Option.some.injEq] at h; subst h; exact ⟨.int_int _ _ _ _, .int_int _ _ _ _, .int_int _ _ _ _⟩)
    | str c => obtain ⟨t, rfl⟩ := r2; cases n <;> (simp [deq, kd] at h; subst h; exact ⟨.int_str _ _ _ _, .int_str _ _ _ _, .int_str _ _ _ _⟩)
  | str a =>
    obtain ⟨t1, rfl⟩ := r1
    cases h2 with
    | non => cases r2; cases n <;> (simp [deq, kd] at h; subst h; exact ⟨.str_none _ _, .str_none _ _, .str_none _ _⟩)
    | bl c => cases r2; cases n <;> (simp [deq, kd] at h; subst h; exact ⟨.str_bool _ _ _, .str_bool _ _ _, .str_bool _ _ _⟩)
    | int c => obtain ⟨t, rfl⟩ := r2; cases n <;> (simp [deq, kd] at h; subst h; exact ⟨.str_int _ _ _ _, .str_int _ _ _ _, .str_int _ _ _ _⟩)
    | str c =>
      obtain ⟨t, rfl⟩ := r2
      have e : b = ((⟨a.toArray⟩ : Str) == ⟨c.toArray⟩) := by
        have h' : (a == c) = b := by cases n <;> (simp only [deq, Option.some.injEq] at h; exact h)
        rw [← h', Bool.eq_iff_iff, beq_iff_eq, beq_iff_eq]
        exact ⟨fun z => by rw [z], fun z => by simpa using congrArg (fun q : Str => q.cps.toList) z⟩
      subst e
      exact ⟨.str_str _ _ _ _, .str_str _ _ _ _, .str_str _ _ _ _⟩
open SeqAt in
theorem eq_sq_sc (I : Inv X pins σ H s) {A : Around} {d e : D} {t : Bool} {ds : List D} {v w : V} {u1 u2 : Value} (h1 : IsSq X.K H io d t ds v) (h2 : Sc e w) (r1 : RelV v u1) (r2 : RelV w u2) (hu : A.units < cLine) : EqAll A s u1 u2 false ∧ EqAll A s u2 u1 false := by
  obtain ⟨a, xs, rfl, _, p⟩ := h1.addr
  cases r1
  rcases p with ⟨rfl, p⟩ | ⟨rfl, p⟩
  · obtain ⟨its, _, q, _⟩ := I.tuple p
    have q : s.heap.IsTuple a its.toArray := q
    cases h2 with
    | non => cases r2; exact ⟨⟨.tuple_none q hu, .tuple_none q hu, .tuple_none q hu⟩, ⟨.none_tuple q hu, .none_tuple q hu, .none_tuple q hu⟩⟩
    | bl c => cases r2; exact ⟨⟨.tuple_bool _ q hu, .tuple_bool _ q hu, .tuple_bool _ q hu⟩, ⟨.bool_tuple _ q hu, .bool_tuple _ q hu, .bool_tuple _ q hu⟩⟩
    | int c => obtain ⟨t, rfl⟩ := r2; exact ⟨⟨.tuple_int _ _ q hu, .tuple_int _ _ q hu, .tuple_int _ _ q hu⟩, ⟨.int_tuple _ _ q hu, .int_tuple _ _ q hu, .int_tuple _ _ q hu⟩⟩
    | str c => obtain ⟨t, rfl⟩ := r2; exact ⟨⟨.tuple_str _ _ q hu, .tuple_str _ _ q hu, .tuple_str _ _ q hu⟩, ⟨.str_tuple _ _ q hu, .str_tuple _ _ q hu, .str_tuple _ _ q hu⟩⟩
  · obtain ⟨its, _, ⟨o, n, e1, e2, _, e3⟩, _⟩ := I.list p
    have q : s.heap.IsList a its.toArray := ⟨o, e1, e2, n, e3⟩
    cases h2 with
    | non => cases r2; exact ⟨⟨.list_none q hu, .list_none q hu, .list_none q hu⟩, ⟨.none_list q hu, .none_list q hu, .none_list q hu⟩⟩
    | bl c => cases r2; exact ⟨⟨.list_bool _ q hu, .list_bool _ q hu, .list_bool _ q hu⟩, ⟨.bool_list _ q hu, .bool_list _ q hu, .bool_list _ q hu⟩⟩
    | int c => obtain ⟨t, rfl⟩ := r2; exact ⟨⟨.list_int _ _ q hu, .list_int _ _ q hu, .list_int _ _ q hu⟩, ⟨.int_list _ _ q hu, .int_list _ _ q hu, .int_list _ _ q hu⟩⟩
    | str c => obtain ⟨t, rfl⟩ := r2; exact ⟨⟨.list_str _ _ q hu, .list_str _ _ q hu, .list_str _ _ q hu⟩, ⟨.str_list _ _ q hu, .str_list _ _ q hu, .str_list _ _ q hu⟩⟩
open SeqAt in
theorem deq_ok (I : Inv X pins σ H s) : ∀ (n : Nat) (d e : D) (b : Bool) (v w : V) (u1 u2 : Value), deq n d e = some b → Rep X.K H io d v → Rep X.K H io e w → RelV v u1 → RelV w u2 → ∀ A : Around, A.units + n < cLine → EqAll A s u1 u2 b := by
  intro n
  induction n using Nat.strongRecOn with
  | _ n ih =>
    intro d e b v w u1 u2 h p1 p2 r1 r2 A hu
    have hu0 : A.units < cLine := by omega
    obtain ⟨k1, k2⟩ := deq_kd h
    rcases p1.split k1 with s1 | ⟨t, ds, s1⟩ <;> rcases p2.split k2 with s2 | ⟨u, es, s2⟩
    · exact eq_sc h s1 s2 r1 r2
    · have e := deq_sc_sq h s1 s2
      subst e
      exact (eq_sq_sc I s2 s1 r2 r1 hu0).2
    · have e := deq_sq_sc h s1 s2
      subst e
      exact (eq_sq_sc I s1 s2 r1 r2 hu0).1
    · have same := deq_same (io := io) I n d e b
      rcases deq_sq h s1 s2 with ⟨ne, rfl⟩ | ⟨e1, m, rfl, hl⟩
      · obtain ⟨a, xs, rfl, x1, q1⟩ := s1.addr
        obtain ⟨a', ys, rfl, x2, q2⟩ := s2.addr
        cases r1; cases r2
        rcases q1 with ⟨rfl, q1⟩ | ⟨rfl, q1⟩ <;> rcases q2 with ⟨rfl, q2⟩ | ⟨rfl, q2⟩
        · exact absurd rfl ne
        · obtain ⟨its, _, t1, _⟩ := I.tuple q1
          obtain ⟨its2, _, ⟨o, k, g1, g2, _, g3⟩, _⟩ := I.list q2
          have t1 : s.heap.IsTuple a its.toArray := t1
          have t2 : s.heap.IsList a' its2.toArray := ⟨o, g1, g2, k, g3⟩
          exact ⟨.tuple_list t1 t2 hu0, .tuple_list t1 t2 hu0, .tuple_list t1 t2 hu0⟩
        · obtain ⟨its, _, t1, _⟩ := I.tuple q2
          obtain ⟨its2, _, ⟨o, k, g1, g2, _, g3⟩, _⟩ := I.list q1
          have t1 : s.heap.IsTuple a' its.toArray := t1
          have t2 : s.heap.IsList a its2.toArray := ⟨o, g1, g2, k, g3⟩
          exact ⟨.list_tuple t2 t1 hu0, .list_tuple t2 t1 hu0, .list_tuple t2 t1 hu0⟩
        · exact absurd rfl ne
      · have hall := deqL_all hl
        have hat := deqL_at hl
        obtain ⟨a, xs, rfl, x1, q1⟩ := s1.addr
        obtain ⟨a', ys, rfl, x2, q2⟩ := s2.addr
        cases r1; cases r2
        subst e1
        -- the items' answers
        have items : ∀ (its its2 : List Value), Vals xs its → Vals ys its2 → ∀ j (h1 : j < its.toArray.size) (h2 : j < its2.toArray.size), EqAt A.in1 s its.toArray[j] its2.toArray[j] (eAt (deq m) ds es j) := by
          intro its its2 v1 v2 j h1 h2
          have g1 : j < its.length := by simpa using h1
          have g2 : j < its2.length := by simpa using h2
          have c1 : j < xs.length := by rw [v1.length]; exact g1
          have c2 : j < ys.length := by rw [v2.length]; exact g2
          obtain ⟨d', e1', w1⟩ := x1.get (i := j) (v := xs[j]) (by simp [c1])
          obtain ⟨d2', e2', w2⟩ := x2.get (i := j) (v := ys[j]) (by simp [c2])
          obtain ⟨u1', f1, y1⟩ := v1.get (i := j) (x := xs[j]) (by simp [c1])
          obtain ⟨u2', f2, y2⟩ := v2.get (i := j) (x := ys[j]) (by simp [c2])
          obtain ⟨b', hb⟩ := hat j d' d2' e1' e2'
          have z := (ih m (Nat.lt_succ_self m) d' d2' b' _ _ u1' u2' hb w1 w2 y1 y2 A.in1 (by show A.units + 1 + m < cLine; omega)).2.2
          have z1 : its.toArray[j] = u1' := by
            rw [List.getElem?_eq_getElem g1] at f1
            simpa using Option.some.inj f1
          have z2 : its2.toArray[j] = u2' := by
            rw [List.getElem?_eq_getElem g2] at f2
            simpa using Option.some.inj f2
          have z3 : eAt (deq m) ds es j = b' := by simp [eAt, e1', e2', hb]
          rw [z1, z2, z3]
          exact z
        have l1 := x1.len
        have l2 := x2.len
        have fin : ∀ {c : Bool}, RcAt A s (.ref a) (.ref a') c → RcNeAt A s (.ref a) (.ref a') (!c) → c = b → EqAll A s (.ref a) (.ref a') b := by
          rintro c g1 g2 rfl
          refine ⟨g1, g2, ?_⟩
          by_cases ha : a = a'
          · subst ha
            rw [same _ h p1 p2]
            exact .same _
          · exact .of_refs ha g1
        rcases q1 with ⟨rfl, q1⟩ | ⟨rfl, q1⟩ <;> rcases q2 with ⟨e2, q2⟩ | ⟨e2, q2⟩ <;> (try cases e2)
        · obtain ⟨its, v1, t1, _⟩ := I.tuple q1
          obtain ⟨its2, v2, t2, _⟩ := I.tuple q2
          have t1 : s.heap.IsTuple a its.toArray := t1
          have t2 : s.heap.IsTuple a' its2.toArray := t2
          have m1 := v1.length
          have m2 := v2.length
          refine fin (RcAt.tuples (e := eAt (deq m) ds es) t1 t2 hu0 (items its its2 v1 v2)) (RcNeAt.tuples t1 t2 hu0 (items its its2 v1 v2)) ?_
          rw [hall, l1, l2, m1, m2]
          simp
        · obtain ⟨its, v1, ⟨o, k, g1, g2, _, g3⟩, _⟩ := I.list q1
          obtain ⟨its2, v2, ⟨o', k', g1', g2', _, g3'⟩, _⟩ := I.list q2
          have t1 : s.heap.IsList a its.toArray := ⟨o, g1, g2, k, g3⟩
          have t2 : s.heap.IsList a' its2.toArray := ⟨o', g1', g2', k', g3'⟩
          have m1 := v1.length
          have m2 := v2.length
          by_cases hz : its.length = its2.length
          · refine fin (RcAt.lists (e := eAt (deq m) ds es) t1 t2 (by simpa using hz) hu0 (items its its2 v1 v2)) (RcNeAt.lists t1 t2 (by simpa using hz) hu0 (items its its2 v1 v2)) ?_
            rw [hall, l1, l2, m1, m2, hz]
            simp [hz]
          · refine fin (c := false) (RcAt.lists_lengths t1 t2 (by simpa using hz) hu0) (RcNeAt.lists_lengths t1 t2 (by simpa using hz) hu0) ?_
            rw [hall, l1, l2, m1, m2]
            simp [hz]
end
end Mi

set_option maxRecDepth 100000
set_option maxHeartbeats 4000000
namespace Mi
open PySem PySem.Spec L2

abbrev XF : XK := fun _ _ _ => False
/-- the rules' wants, from what the small language answers -/
def r1 (K : PySem.W.Frag) (f : D → Sto → R D) : V → Hp → VK → Prop := fun x H Q => ∃ d st io, StOk K H io st ∧ Rep K H io d x ∧ Post K io H XF (RpD K) (f d st) Q
def r2 (K : PySem.W.Frag) (f : D → D → Sto → R D) : R2 := fun x y H Q => ∃ d e st io, StOk K H io st ∧ Rep K H io d x ∧ Rep K H io e y ∧ Post K io H XF (RpD K) (f d e st) Q
def rN (K : PySem.W.Frag) (f : List D → Sto → R D) : List V → Hp → VK → Prop := fun xs H Q => ∃ ds st io, StOk K H io st ∧ RepL K H io ds xs ∧ Post K io H XF (RpD K) (f ds st) Q
def rM (K : PySem.W.Frag) (f : D → List D → Sto → R D) : V → List V → Hp → VK → Prop := fun x xs H Q => ∃ d ds st io, StOk K H io st ∧ Rep K H io d x ∧ RepL K H io ds xs ∧ Post K io H XF (RpD K) (f d ds st) Q

section
variable {K : PySem.W.Frag} {io : Io} {H : Hp} {W : XK} {st : Sto} {Q : VK}
theorem Post.val {d : D} {v : V} (p : Post K io H W (RpD K) (.ok d st) Q) (s : StOk K H io st) (r : Rep K H io d v) : Q v H := p v io H (Ext.refl io H) s r
theorem Post.int {i : Int} (p : Post K io H W (RpD K) (.ok (.int i) st) Q) (s : StOk K H io st) : Q (.int i) H := p.val s rfl
theorem Post.bl {i : Bool} (p : Post K io H W (RpD K) (.ok (.bl i) st) Q) (s : StOk K H io st) : Q (.bl i) H := p.val s rfl
theorem Post.str {i : List Nat} (p : Post K io H W (RpD K) (.ok (.str i) st) Q) (s : StOk K H io st) : Q (.str ⟨i.toArray⟩) H := p.val s rfl
theorem Post.non (p : Post K io H W (RpD K) (.ok .non st) Q) (s : StOk K H io st) : Q .non H := p.val s rfl
theorem Post.newT {ds : List D} {xs : List V} (p : Post K io H W (RpD K) (.ok (.tup ds) st) Q) (s : StOk K H io st) (r : RepL K H io ds xs) (q : Addr) (n : H q = none) : Q (.ref q) (upd H q (.tup xs)) :=
  p _ io _ (Ext.fresh s n _) (s.fresh n _) ⟨q, xs, rfl, upd_same, RepL.ext (Ext.fresh s n _) _ _ r⟩
theorem Post.newL {ds : List D} {xs : List V} (p : Post K io H W (RpD K) (.ok (.lst ds) st) Q) (s : StOk K H io st) (r : RepL K H io ds xs) (q : Addr) (n : H q = none) : Q (.ref q) (upd H q (.lst xs)) :=
  p _ io _ (Ext.fresh s n _) (s.fresh n _) ⟨q, xs, rfl, ⟨upd_same, s.free n⟩, RepL.ext (Ext.fresh s n _) _ _ r⟩
/-- a new list of the store -/
theorem Post.pushL {ds : List D} {xs : List V} (p : Post K io H W (RpD K) (.ok (.loc st.length) (st ++ [.lst ds])) Q) (s : StOk K H io st) (r : RepL K H io ds xs) (q : Addr) (n : H q = none) : Q (.ref q) (upd H q (.lst xs)) :=
  p _ (io.push q) _ (Ext.push s n _) (s.push n ⟨xs, upd_same, RepL.ext (Ext.push s n _) _ _ r⟩) ⟨q, by rw [← s.len]; simp [Io.get, Io.push], rfl⟩
theorem Post.of_bad {α β : Type} {Rp : Hp → Io → α → β → Prop} {Q : β → Hp → Prop} {P : Prop} (p : Post K io H W Rp (.bad : R α) Q) : P := p.elim
end

theorem Post.ite {K : PySem.W.Frag} {io : Io} {H : Hp} {W : XK} {α β : Type} {Rp : Hp → Io → α → β → Prop} {Q : β → Hp → Prop} {c : Prop} [Decidable c] {r : R α} (p : Post K io H W Rp (if c then r else .bad) Q) : c ∧ Post K io H W Rp r Q := by
  by_cases h : c
  · rw [if_pos h] at p; exact ⟨h, p⟩
  · rw [if_neg h] at p; exact p.elim
def sz : Nat := 16777216
theorem sz_eq : sz = sizeLine := sizeLine_eq.symm
theorem str_len (a : List Nat) : (⟨a.toArray⟩ : Str).length = a.length := by
  show (a.toArray).size = a.length
  simp

theorem str_app (a b : List Nat) : (⟨a.toArray⟩ ++ ⟨b.toArray⟩ : Str) = ⟨(a ++ b).toArray⟩ := by
  show Str.mk (a.toArray ++ b.toArray) = _
  rw [List.append_toArray]
/-! ### numbers, sums -/
def addD : D → D → Sto → R D
  | .int i, .int j, st => .ok (.int (i + j)) st
  | .str a, .str b, st => if a.length + b.length ≤ sz then .ok (.str (a ++ b)) st else .bad
  | .tup a, .tup b, st => if a.length + b.length ≤ sz then .ok (.tup (a ++ b)) st else .bad
  | .lst a, .lst b, st => if a.length + b.length ≤ sz then .ok (.lst (a ++ b)) st else .bad
  | _, _, _ => .bad
def subD : D → D → Sto → R D
  | .int i, .int j, st => .ok (.int (i - j)) st
  | _, _, _ => .bad
def mulD : D → D → Sto → R D
  | .int i, .int j, st => if i.natAbs < 2 ^ 64 ∨ j.natAbs < 2 ^ 64 then .ok (.int (i * j)) st else .bad
  | .lst a, .int k, st => if 0 ≤ k ∧ k ≤ 1000 ∧ a.length * k.toNat ≤ sz then .ok (.lst (List.replicate k.toNat a).flatten) st else .bad
  | .str a, .int k, st => if 0 ≤ k ∧ k ≤ 1000 ∧ a.length * k.toNat ≤ sz then .ok (.str (List.replicate k.toNat a).flatten) st else .bad
  | _, _, _ => .bad
def divD : D → D → Sto → R D
  | .int i, .int j, st => if 0 < j ∧ j < 1073741824 then .ok (.int (i / j)) st else .bad
  | _, _, _ => .bad
def modD : D → D → Sto → R D
  | .int i, .int j, st => if 0 < j then .ok (.int (i % j)) st else .bad
  | _, _, _ => .bad
def powD : D → D → Sto → R D
  | .int i, .int j, st => if 0 ≤ j ∧ (i.natAbs.log2 + 1) * j.toNat ≤ 134217728 then .ok (.int (i ^ j.toNat)) st else .bad
  | _, _, _ => .bad
section
variable {X : Cx}
theorem add_s : OpR X (binaryOp .Add) (r2 X.K addD) := by
  intro pins s σ H x y v u Q I rx ry h
  obtain ⟨d, e, st, io, so, r, q, p⟩ := h
  cases d <;> cases e <;> first | exact p.elim | skip
  · cases r; cases q
    exact op_add pins s σ H _ _ v u Q I rx ry ⟨_, _, rfl, rfl, p.int so⟩
  · cases r; cases q
    obtain ⟨hz, p⟩ := Post.ite p
    refine op_add_str pins s σ H _ _ v u Q I rx ry ⟨_, _, rfl, rfl, by rw [str_len, str_len, ← sz_eq]; exact hz, ?_⟩
    rw [str_app]
    exact p.str so
  · obtain ⟨a, xs, rfl, sa, ra⟩ := r
    obtain ⟨b, ys, rfl, sb, rb⟩ := q
    obtain ⟨hz, p⟩ := Post.ite p
    rw [ra.len, rb.len, sz_eq] at hz
    refine op_catA pins s σ H _ _ v u Q I rx ry ⟨a, b, xs, ys, rfl, rfl, .of sa, .of sb, hz, ?_, ?_, ?_⟩
    · intro e0
      have e1 := ra.len
      rw [e0] at e1
      have e2 := List.length_eq_zero_iff.mp e1
      subst e2
      exact p.val so ⟨b, ys, rfl, sb, rb⟩
    · intro _ e0
      have e1 := rb.len
      rw [e0] at e1
      have e2 := List.length_eq_zero_iff.mp e1
      subst e2
      rw [List.append_nil] at p
      exact p.val so ⟨a, xs, rfl, sa, ra⟩
    · intro _ _ z n
      exact p.newT so (ra.append rb) z n
  · obtain ⟨a, xs, rfl, sa, ra⟩ := r
    obtain ⟨b, ys, rfl, sb, rb⟩ := q
    obtain ⟨hz, p⟩ := Post.ite p
    rw [ra.len, rb.len, sz_eq] at hz
    exact op_cat pins s σ H _ _ v u Q I rx ry ⟨a, b, xs, ys, rfl, rfl, sa.1, sb.1, hz, fun z n => p.newL so (ra.append rb) z n⟩
theorem sub_s : OpR X (binaryOp .Sub) (r2 X.K subD) := by
  intro pins s σ H x y v u Q I rx ry h
  obtain ⟨d, e, st, io, so, r, q, p⟩ := h
  cases d <;> cases e <;> first | exact p.elim | skip
  cases r; cases q
  exact op_sub pins s σ H _ _ v u Q I rx ry ⟨_, _, rfl, rfl, p.int so⟩
theorem RepL.rep {K : PySem.W.Frag} {H : Hp} {io : Io} {ds : List D} {xs : List V} (r : RepL K H io ds xs) : ∀ n : Nat, RepL K H io (List.replicate n ds).flatten (List.replicate n xs).flatten
  | 0 => by simp [RepL]
  | n + 1 => by
    rw [List.replicate_succ, List.replicate_succ, List.flatten_cons, List.flatten_cons]
    exact r.append (RepL.rep r n)
theorem foldl_repN (its : List Nat) : ∀ (k : Nat) (acc : List Nat),
    List.foldl (fun x1 x2 => x1 ++ x2) acc.toArray (List.replicate k its.toArray) = (acc ++ (List.replicate k its).flatten).toArray
  | 0, acc => by simp
  | k + 1, acc => by
    rw [List.replicate_succ, List.foldl_cons, List.append_toArray, foldl_repN its k, List.replicate_succ, List.flatten_cons, List.append_assoc]
theorem mul_s : OpR X (binaryOp .Mult) (r2 X.K mulD) := by
  intro pins s σ H x y v u Q I rx ry h
  obtain ⟨d, e, st, io, so, r, q, p⟩ := h
  cases d <;> cases e <;> first | exact p.elim | skip
  · cases r; cases q
    obtain ⟨hz, p⟩ := Post.ite p
    refine op_mul pins s σ H _ _ v u Q I rx ry ⟨_, _, rfl, rfl, ?_, p.int so⟩
    rcases hz with hz | hz
    · exact .inl ⟨by omega, by omega⟩
    · exact .inr ⟨by omega, by omega⟩
  · cases r; cases q
    rename_i a k
    obtain ⟨hz, p⟩ := Post.ite p
    obtain ⟨z1, z2, z3⟩ := hz
    obtain ⟨t, rfl⟩ := (show ∃ t, v = Value.str _ t from rx)
    obtain ⟨u', rfl⟩ := (show ∃ t, u = Value.int _ t from ry)
    have hq := p.str so
    have hlen : (⟨a.toArray⟩ : Str).length = a.length := str_len a
    have big : (a.length : Int) * k ≤ 16777216 := by
      have e : ((a.length * k.toNat : Nat) : Int) = (a.length : Int) * k := by rw [Int.natCast_mul, Int.toNat_of_nonneg z1]
      rw [← e]
      exact Int.ofNat_le.mpr z3
    refine P.mul_str ?_ (fun h1 _ => ?_) (fun h1 _ => ?_) ?_
    · rw [decide_eq_false (by omega), decide_eq_false (by omega)]; rfl
    · rw [hlen]
      intro hgt
      have h2 : (2 ^ 63 - 1 : Int) / k < (a.length : Int) := hgt
      rw [Int.ediv_lt_iff_lt_mul (by omega)] at h2
      omega
    · rw [hlen]
      show decide (a.length * k.toNat > sizeLine) = false
      rw [← sz_eq]
      exact decide_eq_false (by omega)
    · by_cases h1 : k < 1
      · rw [if_pos h1]
        have e0 : k.toNat = 0 := by omega
        rw [e0] at hq
        exact ⟨by decide, ⟨.str ⟨[].toArray⟩, H, I.tok _, ⟨_, rfl⟩, hq⟩⟩
      · rw [if_neg h1]
        by_cases h2 : (k == 1 || (⟨a.toArray⟩ : Str).length == 0) = true
        · rw [if_pos h2]
          have e1 : (List.replicate k.toNat a).flatten = a := by
            rw [hlen] at h2
            simp only [Bool.or_eq_true, beq_iff_eq] at h2
            rcases h2 with h2 | h2
            · subst h2; simp
            · have := List.eq_nil_of_length_eq_zero h2
              subst this
              simp
          rw [e1] at hq
          exact ⟨.str ⟨a.toArray⟩, H, I, ⟨_, rfl⟩, hq⟩
        · rw [if_neg h2]
          have e2 : (List.replicate k.toNat (⟨a.toArray⟩ : Str).cps).foldl (· ++ ·) #[] = (List.replicate k.toNat a).flatten.toArray := by
            have := foldl_repN a k.toNat []
            rw [List.nil_append] at this
            exact this
          rw [e2]
          exact ⟨by rw [str_len, ← sz_eq]; simpa [List.length_flatten, Nat.mul_comm] using z3, ⟨.str ⟨(List.replicate k.toNat a).flatten.toArray⟩, H, I.tok _, ⟨_, rfl⟩, hq⟩⟩
  · obtain ⟨a, xs, rfl, sa, ra⟩ := r
    cases q
    rename_i k
    obtain ⟨hz, p⟩ := Post.ite p
    obtain ⟨z1, z2, z3⟩ := hz
    refine op_rep pins s σ H _ _ v u Q I rx ry ⟨a, k, xs, rfl, rfl, sa.1, by omega, by omega, by rw [← ra.len, ← sz_eq]; exact z3, fun z n => p.newL so (ra.rep _) z n⟩
theorem div_s : OpR X (binaryOp .FloorDiv) (r2 X.K divD) := by
  intro pins s σ H x y v u Q I rx ry h
  obtain ⟨d, e, st, io, so, r, q, p⟩ := h
  cases d <;> cases e <;> first | exact p.elim | skip
  cases r; cases q
  obtain ⟨hz, p⟩ := Post.ite p
  exact op_fdiv pins s σ H _ _ v u Q I rx ry ⟨_, _, rfl, rfl, hz, p.int so⟩
theorem mod_s : OpR X (binaryOp .Mod) (r2 X.K modD) := by
  intro pins s σ H x y v u Q I rx ry h
  obtain ⟨d, e, st, io, so, r, q, p⟩ := h
  cases d <;> cases e <;> first | exact p.elim | skip
  cases r; cases q
  obtain ⟨hz, p⟩ := Post.ite p
  exact op_mod pins s σ H _ _ v u Q I rx ry ⟨_, _, rfl, rfl, hz, p.int so⟩
theorem pow_s : OpR X (binaryOp .Pow) (r2 X.K powD) := by
  intro pins s σ H x y v u Q I rx ry h
  obtain ⟨d, e, st, io, so, r, q, p⟩ := h
  cases d <;> cases e <;> first | exact p.elim | skip
  cases r; cases q
  obtain ⟨hz, p⟩ := Post.ite p
  obtain ⟨z1, z2⟩ := hz
  rename_i i j _
  obtain ⟨t, rfl⟩ := rx
  obtain ⟨t', rfl⟩ := ry
  refine PyProof.Rows.pow_int z1 ?_ ⟨.int _, H, I.tok _, ⟨_, rfl⟩, p.int so⟩
  have b : Builtin.Int.intBits i ≤ i.natAbs.log2 + 1 := by
    unfold Builtin.Int.intBits
    split <;> omega
  have b2 : Builtin.Int.intBits i * j.toNat ≤ (i.natAbs.log2 + 1) * j.toNat := Nat.mul_le_mul_right _ b
  have e : j = (j.toNat : Int) := by omega
  rw [e]
  have z3 : Builtin.Int.intBits i * j.toNat ≤ 134217728 := Nat.le_trans b2 z2
  have z4 : ((Builtin.Int.intBits i * j.toNat : Nat) : Int) ≤ 134217728 := by omega
  simpa using z4
end
end Mi

set_option maxRecDepth 100000
set_option maxHeartbeats 4000000
namespace Mi
open PySem PySem.Spec L2

def itemsOf (d : D) (st : Sto) : Option (List D) := match d with
  | .tup ds => some ds
  | .lst ds => some ds
  | .fro ds => some ds
  | .loc n => (match st[n]? with
    | some (.lst ds) => some ds
    | some (.frl ds) => some ds
    | _ => none)
  | _ => none
def dictOf (d : D) (st : Sto) : Option (List KeyD × List D) := match d with
  | .dct ks vs => some (ks, vs)
  | .loc n => (match st[n]? with
    | some (.dct ks vs) => some (ks, vs)
    | some (.frd ks vs) => some (ks, vs)
    | _ => none)
  | _ => none
def keyD : D → Option KeyD
  | .int i => some (.inl i)
  | .str s => some (.inr s)
  | _ => none
theorem itemsOf_t {K : PySem.W.Frag} {H : Hp} {io : Io} {st : Sto} {d : D} {v : V} {ds : List D} (e : itemsOf d st = some ds) (so : StOk K H io st) (r : Rep K H io d v) :
    ∃ a xs, v = .ref a ∧ RepL K H io ds xs ∧ (SqL K H a xs ∨ H a = some (.tup xs)) := by
  cases d <;> simp only [itemsOf, Option.some.injEq, reduceCtorEq] at e
  · subst e; obtain ⟨a, xs, rfl, p, r⟩ := r; exact ⟨a, xs, rfl, r, .inr p⟩
  · subst e; obtain ⟨a, xs, rfl, p, r⟩ := r; exact ⟨a, xs, rfl, r, .inl (.of p.1)⟩
  · subst e; obtain ⟨a, xs, rfl, p, r⟩ := r; exact ⟨a, xs, rfl, r, .inl p.sql⟩
  · rename_i n
    obtain ⟨a, ea, rfl⟩ := r
    cases q : st[n]? with
    | none => rw [q] at e; cases e
    | some b =>
      rw [q] at e
      cases b with
      | lst zs =>
        cases e
        obtain ⟨xs, e1, r1⟩ := so.ob n a _ ea q
        exact ⟨a, xs, rfl, r1, .inl (.of e1)⟩
      | frl zs =>
        cases e
        obtain ⟨o, xs, e1, r1⟩ := so.ob n a _ ea q
        exact ⟨a, xs, rfl, r1, .inl (.inl (.inr ⟨o, e1⟩))⟩
      | dct _ _ => cases e
      | frd _ _ => cases e
      | ins _ _ _ => cases e
theorem itemsOf_at {K : PySem.W.Frag} {H : Hp} {io : Io} {st : Sto} {d : D} {v : V} {ds : List D} (e : itemsOf d st = some ds) (so : StOk K H io st) (r : Rep K H io d v) :
    ∃ a xs, v = .ref a ∧ RepL K H io ds xs ∧ (SqL K H a xs ∨ SqT K H a xs) :=
  let ⟨a, xs, e1, r1, h⟩ := itemsOf_t e so r
  ⟨a, xs, e1, r1, h.imp id .of⟩
theorem dictOf_at {K : PySem.W.Frag} {H : Hp} {io : Io} {st : Sto} {d : D} {v : V} {ks : List KeyD} {vs : List D} (e : dictOf d st = some (ks, vs)) (so : StOk K H io st) (r : Rep K H io d v) :
    ∃ a xs, v = .ref a ∧ Rd H a (.dK ((ks.map keyOf).zip xs)) ∧ ks.length = xs.length ∧ RepL K H io vs xs := by
  cases d <;> simp only [dictOf, Option.some.injEq, Prod.mk.injEq, reduceCtorEq] at e
  · obtain ⟨rfl, rfl⟩ := e; obtain ⟨a, xs, rfl, ⟨o, p, _⟩, l, r⟩ := r; exact ⟨a, xs, rfl, .inr ⟨o, p⟩, l, r⟩
  · rename_i n
    obtain ⟨a, ea, rfl⟩ := r
    cases q : st[n]? with
    | none => rw [q] at e; cases e
    | some b =>
      rw [q] at e
      cases b with
      | lst zs => cases e
      | frl zs => cases e
      | dct zs ws =>
        cases e
        obtain ⟨xs, e1, l, r1⟩ := so.ob n a _ ea q
        exact ⟨a, xs, rfl, .inl e1, l, r1⟩
      | frd zs ws =>
        cases e
        obtain ⟨o, xs, e1, l, r1⟩ := so.ob n a _ ea q
        exact ⟨a, xs, rfl, .inr ⟨o, e1⟩, l, r1⟩
      | ins _ _ _ => cases e
theorem keyD_at {K : PySem.W.Frag} {H : Hp} {io : Io} {d : D} {v : V} {k : KeyD} (e : keyD d = some k) (r : Rep K H io d v) : v = kV (keyOf k) := by
  cases d <;> simp only [keyD, Option.some.injEq, reduceCtorEq] at e
  · subst e; cases r; rfl
  · subst e; cases r; rfl

/-! ### comparisons -/
def ofB (o : Option Bool) (st : Sto) : R D := match o with
  | some b => .ok (.bl b) st
  | none => .bad
def eqD (d e : D) (st : Sto) : R D := ofB (deq 40 d e) st
def neD (d e : D) (st : Sto) : R D := ofB ((deq 40 d e).map (!·)) st
def ltI (f : Int → Int → Bool) : D → D → Sto → R D
  | .int i, .int j, st => .ok (.bl (f i j)) st
  | _, _, _ => .bad
def inL (x : D) : List D → Option Bool
  | [] => some false
  | y :: ys => match deq 39 y x, inL x ys with
    | some a, some b => some (a || b)
    | _, _ => none
def inV (x c : D) (st : Sto) : Option Bool := match itemsOf c st with
  | some ds => inL x ds
  | none => match dictOf c st with
    | some (ks, _) => (keyD x).map fun k => ks.any fun j => decide (j = k)
    | none => match c, x with
      | .str s, .str [ch] => some (decide (ch ∈ s))
      | _, _ => none
def inD (x c : D) (st : Sto) : R D := ofB (inV x c st) st
def notInD (x c : D) (st : Sto) : R D := ofB ((inV x c st).map (!·)) st
def isN (x : D) (st : Sto) : R D := .ok (.bl (match x with | .non => true | _ => false)) st
section
variable {X : Cx}
theorem eq_s (hu : X.A.units + 64 < cLine) : OpR X (compareOp .Eq) (r2 X.K eqD) := by
  intro pins s σ H x y v u Q I rx ry h
  obtain ⟨d, e, st, io, so, r, q, p⟩ := h
  unfold eqD at p
  cases hd : deq 40 d e with
  | none => rw [hd] at p; exact p.elim
  | some b =>
    rw [hd] at p
    exact (deq_ok I 40 d e b x y v u hd r q rx ry X.A (by omega)).1 _ _ _ _ ⟨.bl b, H, I, rfl, p.bl so⟩
theorem ne_s (hu : X.A.units + 64 < cLine) : OpR X (compareOp .NotEq) (r2 X.K neD) := by
  intro pins s σ H x y v u Q I rx ry h
  obtain ⟨d, e, st, io, so, r, q, p⟩ := h
  unfold neD at p
  cases hd : deq 40 d e with
  | none => rw [hd] at p; exact p.elim
  | some b =>
    rw [hd] at p
    exact (deq_ok I 40 d e b x y v u hd r q rx ry X.A (by omega)).2.1 _ _ _ _ ⟨.bl (!b), H, I, rfl, p.bl so⟩
theorem lt_s : OpR X (compareOp .Lt) (r2 X.K (ltI fun i j => decide (i < j))) := by
  intro pins s σ H x y v u Q I rx ry h
  obtain ⟨d, e, st, io, so, r, q, p⟩ := h
  cases d <;> cases e <;> first | exact p.elim | skip
  cases r; cases q
  exact op_lt pins s σ H _ _ v u Q I rx ry ⟨_, _, rfl, rfl, p.bl so⟩
theorem le_s : OpR X (compareOp .LtE) (r2 X.K (ltI fun i j => decide (i ≤ j))) := by
  intro pins s σ H x y v u Q I rx ry h
  obtain ⟨d, e, st, io, so, r, q, p⟩ := h
  cases d <;> cases e <;> first | exact p.elim | skip
  cases r; cases q
  exact op_le pins s σ H _ _ v u Q I rx ry ⟨_, _, rfl, rfl, p.bl so⟩
theorem gt_s : OpR X (compareOp .Gt) (r2 X.K (ltI fun i j => decide (j < i))) := by
  intro pins s σ H x y v u Q I rx ry h
  obtain ⟨d, e, st, io, so, r, q, p⟩ := h
  cases d <;> cases e <;> first | exact p.elim | skip
  cases r; cases q
  exact op_gt pins s σ H _ _ v u Q I rx ry ⟨_, _, rfl, rfl, p.bl so⟩
theorem ge_s : OpR X (compareOp .GtE) (r2 X.K (ltI fun i j => decide (j ≤ i))) := by
  intro pins s σ H x y v u Q I rx ry h
  obtain ⟨d, e, st, io, so, r, q, p⟩ := h
  cases d <;> cases e <;> first | exact p.elim | skip
  cases r; cases q
  exact op_ge pins s σ H _ _ v u Q I rx ry ⟨_, _, rfl, rfl, p.bl so⟩
theorem Sc.det {d d' : D} {v : V} (h : Sc d v) (g : Sc d' v) : d = d' := by
  cases h <;> cases g <;> first | rfl | skip
/-- what bears a value answers alike -/
theorem deq_rep {pins : List (Addr × Obj)} {σ : St} {H : Hp} {s : Shared} {io : Io} (I : L2.Inv X pins σ H s) : ∀ (n : Nat) (d d' e : D) (b b' : Bool) (v : V), deq n d e = some b → deq n d' e = some b' → Rep X.K H io d v → Rep X.K H io d' v → b = b' := by
  intro n
  induction n using Nat.strongRecOn with
  | _ n ih =>
    have sq : ∀ (m : Nat), m < n → ∀ (ds ds' es : List D) (xs : List V) (b b' : Bool), deqL (deq m) ds es = some b → deqL (deq m) ds' es = some b' → RepL X.K H io ds xs → RepL X.K H io ds' xs → b = b' := by
      intro m hm ds
      induction ds with
      | nil =>
        intro ds' es xs b b' h h' r1 r2
        cases r1
        cases ds' with
        | nil => rw [h] at h'; exact Option.some.inj h'
        | cons e es => obtain ⟨_, _, z, _⟩ := r2; cases z
      | cons d ds ihd =>
        intro ds' es xs b b' h h' r1 r2
        obtain ⟨x, xr, rfl, p1, p2⟩ := r1
        cases ds' with
        | nil => cases r2
        | cons d' ds' =>
          obtain ⟨_, _, z, q1, q2⟩ := r2
          cases z
          cases es with
          | nil => cases h; cases h'; rfl
          | cons e es =>
            unfold deqL at h h'
            cases k1 : deq m d e with
            | none => rw [k1] at h; cases h
            | some x1 =>
              cases k2 : deqL (deq m) ds es with
              | none => rw [k1, k2] at h; cases h
              | some y1 =>
                cases k1' : deq m d' e with
                | none => rw [k1'] at h'; cases h'
                | some x1' =>
                  cases k2' : deqL (deq m) ds' es with
                  | none => rw [k1', k2'] at h'; cases h'
                  | some y1' =>
                    rw [k1, k2] at h
                    rw [k1', k2'] at h'
                    rw [ih m hm d d' e x1 x1' _ k1 k1' p1 q1, ihd ds' es _ y1 y1' k2 k2' p2 q2] at h
                    cases h; cases h'; rfl
    intro d d' e b b' v h h' r1 r2
    obtain ⟨k1, k2⟩ := deq_kd h
    obtain ⟨k1', _⟩ := deq_kd h'
    rcases r1.split k1 with s1 | ⟨t, ds, s1⟩ <;> rcases r2.split k1' with s2 | ⟨u, es, s2⟩
    · have z := s1.det s2
      subst z
      rw [h] at h'
      exact Option.some.inj h'
    · cases s1 <;> cases s2
    · cases s1 <;> cases s2
    · obtain ⟨e1, xs, p1, p2⟩ := s1.same I s2
      -- the other side
      cases ke : e with
      | non => subst ke; rw [deq_sq_sc h s1 .non, deq_sq_sc h' s2 .non]
      | bl c => subst ke; rw [deq_sq_sc h s1 (.bl c), deq_sq_sc h' s2 (.bl c)]
      | int c => subst ke; rw [deq_sq_sc h s1 (.int c), deq_sq_sc h' s2 (.int c)]
      | str c => subst ke; rw [deq_sq_sc h s1 (.str c), deq_sq_sc h' s2 (.str c)]
      | dct _ _ => subst ke; exact absurd k2 (by simp [kd])
      | dtu _ _ => subst ke; exact absurd k2 (by simp [kd])
      | loc _ => subst ke; exact absurd k2 (by simp [kd])
      | glo _ => subst ke; exact absurd k2 (by simp [kd])
      | ty _ => subst ke; exact absurd k2 (by simp [kd])
      | tuq _ => subst ke; exact absurd k2 (by simp [kd])
      | xcp _ _ _ => subst ke; exact absurd k2 (by simp [kd])
      | _ =>
        subst ke
        cases s1 <;> cases s2 <;> cases n <;> simp only [deq, kd] at h h' <;> first | (exact absurd e1 (by decide)) | (simp at h h'; rw [h, h']) | (simp at h) | (exact sq _ (Nat.lt_succ_self _) _ _ _ xs _ _ h h' p1 p2) | (cases e1)
theorem inL_iff {x : D} : ∀ {ds : List D} {b : Bool}, inL x ds = some b → (∀ d ∈ ds, ∃ c, deq 39 d x = some c) ∧ (b = true ↔ ∃ d ∈ ds, deq 39 d x = some true)
  | [], b, h => by cases h; simp
  | y :: ys, b, h => by
    unfold inL at h
    cases q1 : deq 39 y x with
    | none => rw [q1] at h; cases h
    | some c =>
      cases q2 : inL x ys with
      | none => rw [q1, q2] at h; cases h
      | some c2 =>
        rw [q1, q2] at h
        cases h
        obtain ⟨h1, h2⟩ := inL_iff q2
        refine ⟨fun d hd => ?_, ?_⟩
        · rcases List.mem_cons.mp hd with rfl | hd
          · exact ⟨c, q1⟩
          · exact h1 d hd
        · rw [Bool.or_eq_true, h2]
          constructor
          · rintro (rfl | ⟨d, hd, e⟩)
            · exact ⟨y, List.mem_cons_self, q1⟩
            · exact ⟨d, List.mem_cons_of_mem _ hd, e⟩
          · rintro ⟨d, hd, e⟩
            rcases List.mem_cons.mp hd with rfl | hd
            · rw [q1] at e; exact .inl (Option.some.inj e)
            · exact .inr ⟨d, hd, e⟩
/-- each item's answer, by its value -/
theorem inL_ok {pins : List (Addr × Obj)} {σ : St} {H : Hp} {s : Shared} {io : Io} (I : L2.Inv X pins σ H s) (hu : X.A.units + 64 < cLine) {x : D} {xv : V} {xu : Value} (r : Rep X.K H io x xv) (rx : RelV xv xu) {ds : List D} {xs : List V} {us : List Value} {b : Bool}
    (h : inL x ds = some b) (q : RepL X.K H io ds xs) (vs : Vals xs us) : ∃ e : Value → Bool, (∀ y ∈ us, SeqAt.EqAt X.A.in1 s y xu (e y)) ∧ us.any e = b := by
  classical
  obtain ⟨h1, h2⟩ := inL_iff h
  -- of a value: what bears it, its answer
  have at_ : ∀ y ∈ us, ∃ d ∈ ds, ∃ w c, Rep X.K H io d w ∧ RelV w y ∧ deq 39 d x = some c := by
    intro y hy
    obtain ⟨i, hi, rfl⟩ := List.getElem_of_mem hy
    have l1 := vs.length
    have hx : i < xs.length := by omega
    obtain ⟨d, e1, w1⟩ := q.get (i := i) (v := xs[i]) (by simp [hx])
    obtain ⟨u', f1, y1⟩ := vs.get (i := i) (x := xs[i]) (by simp [hx])
    rw [List.getElem?_eq_getElem hi] at f1
    cases f1
    obtain ⟨c, hc⟩ := h1 d (List.mem_of_getElem? e1)
    exact ⟨d, List.mem_of_getElem? e1, _, c, w1, y1, hc⟩
  have key : ∀ y, ∀ d w c, Rep X.K H io d w → RelV w y → deq 39 d x = some c → (decide (∃ d' w', Rep X.K H io d' w' ∧ RelV w' y ∧ deq 39 d' x = some true)) = c := by
    intro y d w c g1 g2 g3
    cases c with
    | true => exact decide_eq_true ⟨d, w, g1, g2, g3⟩
    | false =>
      refine decide_eq_false ?_
      rintro ⟨d', w', k1, k2, k3⟩
      have z := RelV.inj g2 k2
      subst z
      have z2 := deq_rep I 39 d d' x false true w g3 k3 g1 k1
      cases z2
  refine ⟨fun y => decide (∃ d' w', Rep X.K H io d' w' ∧ RelV w' y ∧ deq 39 d' x = some true), fun y hy => ?_, ?_⟩
  · obtain ⟨d, _, w, c, g1, g2, g3⟩ := at_ y hy
    show SeqAt.EqAt X.A.in1 s y xu (decide _)
    rw [key y d w c g1 g2 g3]
    exact (deq_ok I 39 d x c w xv y xu g3 g1 r g2 rx X.A.in1 (by show X.A.units + 1 + 39 < cLine; omega)).2.2
  · rw [Bool.eq_iff_iff, List.any_eq_true, h2]
    constructor
    · rintro ⟨y, hy, e⟩
      obtain ⟨d, hd, w, c, g1, g2, g3⟩ := at_ y hy
      rw [key y d w c g1 g2 g3] at e
      subst e
      exact ⟨d, hd, g3⟩
    · rintro ⟨d, hd, e⟩
      obtain ⟨i, hi, rfl⟩ := List.getElem_of_mem hd
      obtain ⟨w, e1, w1⟩ := q.at (i := i) (d := ds[i]) (by simp [hi])
      obtain ⟨u', f1, y1⟩ := vs.get (i := i) (x := w) e1
      refine ⟨u', List.mem_of_getElem? f1, ?_⟩
      exact decide_eq_true ⟨_, w, w1, y1, e⟩

theorem dict_has {ks : List KeyD} {xs : List V} (l : ks.length = xs.length) (k : KeyD) : (valV ((ks.map keyOf).zip xs) (keyOf k)).isSome = ks.any fun j => decide (j = k) := by
  rw [← valV_any]
  induction ks generalizing xs with
  | nil => rfl
  | cons a r ih =>
    cases xs with
    | nil => cases l
    | cons x xs =>
      have e : decide (keyOf a = keyOf k) = decide (a = k) := decide_eq_decide.mpr ⟨keyOf_inj, fun z => by rw [z]⟩
      have i2 := ih (xs := xs) (by simpa using l)
      simp only [List.map_cons, List.zip_cons_cons, List.any_cons, e, i2]
theorem occ_sign (c : Nat) (z : Str) : (!(Builtin.Str.occurrences z ⟨#[c]⟩ 0 z.length 1).isEmpty) = decide (c ∈ z.cps.toList) := PySem.StrLaws.found_one z c
theorem in_core (hu : X.A.units + 64 < cLine) {pins : List (Addr × Obj)} {s : Shared} {σ : St} {H : Hp} {x y : V} {v u : Value} {st : Sto} {io : Io} {d e : D} {b : Bool} (I : L2.Inv X pins σ H s) (rx : RelV x v) (ry : RelV y u) (so : StOk X.K H io st)
    (r : Rep X.K H io d x) (q : Rep X.K H io e y) (h : inV d e st = some b) {E : Value → Shared → Prop} {neg : Bool} {Qs : Value → Shared → Prop} (k : ∀ s', L2.Inv X pins σ H s' → Qs (.bool (if neg then !b else b)) s') :
    wpAny (model X.prog X.w) X.A (compareOp (if neg then .NotIn else .In) v u) Qs E s := by
  unfold inV at h
  cases hi : itemsOf e st with
  | some ds =>
    rw [hi] at h
    obtain ⟨a, xs, rfl, rl, hs⟩ := itemsOf_at hi so q
    cases ry
    rcases hs with hs | hs
    · obtain ⟨its, rv, ⟨o, n, g1, g2, _, g3⟩, _⟩ := I.list hs
      obtain ⟨f, h1, h2⟩ := inL_ok I hu r rx h rl rv
      have t1 : s.heap.IsList a its.toArray := ⟨o, g1, g2, n, g3⟩
      have h2' : its.toArray.any f = b := by simpa using h2
      cases neg with
      | false => exact SeqAt.in_listAt f t1 (fun y hy => h1 y (by simpa using hy)) (by rw [h2']; exact k s I)
      | true => exact SeqAt.notIn_listAt f t1 (fun y hy => h1 y (by simpa using hy)) (by rw [h2']; exact k s I)
    · obtain ⟨its, rv, t1, _⟩ := I.tuple hs
      obtain ⟨f, h1, h2⟩ := inL_ok I hu r rx h rl rv
      have t1 : s.heap.IsTuple a its.toArray := t1
      have h2' : its.toArray.any f = b := by simpa using h2
      cases neg with
      | false => exact SeqAt.in_tupleAt f t1 (fun y hy => h1 y (by simpa using hy)) (by rw [h2']; exact k s I)
      | true => exact SeqAt.notIn_tupleAt f t1 (fun y hy => h1 y (by simpa using hy)) (by rw [h2']; exact k s I)
  | none =>
    rw [hi] at h
    cases hd : dictOf e st with
    | some kv =>
      obtain ⟨ks, vs⟩ := kv
      rw [hd] at h
      obtain ⟨a, xs, rfl, ha, l, rl⟩ := dictOf_at hd so q
      cases ry
      cases hk : keyD d with
      | none => simp [hk] at h
      | some kk =>
        simp [hk] at h
        have ek := keyD_at hk r
        subst ek
        have g : DGet H a (kV (keyOf kk)) (valV ((ks.map keyOf).zip xs) (keyOf kk)) := .inl ⟨_, _, ha, rfl, rfl⟩
        have eb : (valV ((ks.map keyOf).zip xs) (keyOf kk)).isSome = b := by
          rw [dict_has l]
          rw [← h]
        cases neg with
        | false =>
          refine d_in (o := valV ((ks.map keyOf).zip xs) (keyOf kk)) (by omega) I g rx fun s' I' => ?_
          rw [eb]
          exact k s' I'
        | true =>
          refine d_notIn (o := valV ((ks.map keyOf).zip xs) (keyOf kk)) (by omega) I g rx fun s' I' => ?_
          rw [eb]
          exact k s' I'
    | none =>
      rw [hd] at h
      cases e with
      | str z =>
        cases d with
        | str c =>
          cases c with
          | nil => cases h
          | cons c cs =>
            cases cs with
            | cons _ _ => cases h
            | nil =>
              cases h
              cases r; cases q
              obtain ⟨t, rfl⟩ := rx
              obtain ⟨t', rfl⟩ := ry
              have ez := PySem.StrLaws.found_one (⟨z.toArray⟩ : Str) c
              have e2 : decide (c ∈ (⟨z.toArray⟩ : Str).cps.toList) = decide (c ∈ z) := by simp
              cases neg with
              | false => exact PyProof.Rows.in_str (by
                  have := k s I
                  rw [if_neg Bool.false_ne_true, ← e2, ← ez] at this
                  exact this)
              | true => exact PyProof.Rows.notIn_str (by
                  have := k s I
                  rw [if_pos rfl, ← e2, ← ez] at this
                  exact this)
        | _ => cases h
      | _ => cases h
theorem in_s (hu : X.A.units + 64 < cLine) : OpR X (compareOp .In) (r2 X.K inD) := by
  intro pins s σ H x y v u Q I rx ry h
  obtain ⟨d, e, st, io, so, r, q, p⟩ := h
  unfold inD at p
  cases hd : inV d e st with
  | none => rw [hd] at p; exact p.elim
  | some b =>
    rw [hd] at p
    exact in_core (neg := false) hu I rx ry so r q hd fun s' I' => ⟨.bl b, H, I', rfl, p.bl so⟩
theorem notIn_s (hu : X.A.units + 64 < cLine) : OpR X (compareOp .NotIn) (r2 X.K notInD) := by
  intro pins s σ H x y v u Q I rx ry h
  obtain ⟨d, e, st, io, so, r, q, p⟩ := h
  unfold notInD at p
  cases hd : inV d e st with
  | none => rw [hd] at p; exact p.elim
  | some b =>
    rw [hd] at p
    exact in_core (neg := true) hu I rx ry so r q hd fun s' I' => ⟨.bl (!b), H, I', rfl, p.bl so⟩
end
end Mi

set_option maxRecDepth 100000
set_option maxHeartbeats 4000000
namespace Mi
open PySem PySem.Spec L2

/-! ### items -/
def idxD (a i : D) (st : Sto) : R D := match itemsOf a st, i with
  | some ds, .int k => (match atI ds k with
    | some d => .ok d st
    | none => .bad)
  | _, _ => match a, i with
    | .str s, .int k => (match atI s k with
      | some c => if s.length ≤ sz then .ok (.str [c]) st else .bad
      | none => .bad)
    | _, _ => .bad
def valD (ks : List KeyD) (vs : List D) (k : KeyD) : Option D := match ks, vs with
  | a :: ks, v :: vs => if a = k then some v else valD ks vs k
  | _, _ => none
def getD (a i : D) (st : Sto) : R D := match dictOf a st, keyD i with
  | some (ks, vs), some k => (match valD ks vs k with
    | some d => .ok d st
    | none => .bad)
  | _, _ => .bad
theorem RepL.atI {K : PySem.W.Frag} {H : Hp} {io : Io} {ds : List D} {xs : List V} (r : RepL K H io ds xs) {k : Int} {d : D} (e : atI ds k = some d) : ∃ v, L2.atI xs k = some v ∧ Rep K H io d v := by
  unfold L2.atI at e ⊢
  rw [← r.len]
  cases q : ixN ds.length k with
  | none => rw [q] at e; cases e
  | some j =>
    rw [q] at e
    exact r.at e
theorem valD_at {K : PySem.W.Frag} {H : Hp} {io : Io} : ∀ {ks : List KeyD} {vs : List D} {xs : List V} {k : KeyD} {d : D}, RepL K H io vs xs → valD ks vs k = some d → ∃ v, valV ((ks.map keyOf).zip xs) (keyOf k) = some v ∧ Rep K H io d v
  | [], _, _, _, _, _, e => by simp [valD] at e
  | _ :: _, [], _, _, _, _, e => by simp [valD] at e
  | a :: ks, v :: vs, xs, k, d, r, e => by
    obtain ⟨x, xr, rfl, h1, h2⟩ := r
    unfold valD at e
    by_cases h : a = k
    · rw [if_pos h] at e; cases e
      exact ⟨x, valV_pos (by simp [h]), h1⟩
    · rw [if_neg h] at e
      obtain ⟨v', g1, g2⟩ := valD_at (k := k) h2 e
      exact ⟨v', by rw [List.map_cons, List.zip_cons_cons, valV_neg (fun z => h (keyOf_inj z))]; exact g1, g2⟩
/-- a cut -/
def cutD {α : Type} (xs : List α) (lo hi : Option Int) : List α := (xs.drop (HT.sIx xs.length 0 lo)).take (HT.sIx xs.length xs.length hi - HT.sIx xs.length 0 lo)
theorem RepL.cut {K : PySem.W.Frag} {H : Hp} {io : Io} {ds : List D} {xs : List V} (r : RepL K H io ds xs) (lo hi : Option Int) : RepL K H io (cutD ds lo hi) (cutV xs lo hi) := by
  unfold cutD cutV
  rw [r.len]
  exact (r.drop _).take _
def slD (a : D) (lo hi : Option Int) (st : Sto) : R D := match a with
  | .tup ds => .ok (.tup (cutD ds lo hi)) st
  | .lst ds => .ok (.lst (cutD ds lo hi)) st
  | .str s => if s.length ≤ sz then .ok (.str (cutD s lo hi)) st else .bad
  | .loc n => (match st[n]? with
    | some (.lst ds) => .ok (.lst (cutD ds lo hi)) st
    | _ => .bad)
  | _ => .bad
def rSl (K : PySem.W.Frag) : V → Option Int → Option Int → Hp → VK → Prop := fun x lo hi H Q => ∃ d st io, StOk K H io st ∧ Rep K H io d x ∧ Post K io H XF (RpD K) (slD d lo hi st) Q
section
variable {X : Cx}
theorem idx_s : IxR X (r2 X.K idxD) := by
  intro value slice pins s σ H x y v u Q I rx ry h hs
  obtain ⟨d, e, st, io, so, r, q, p⟩ := h
  unfold idxD at p
  cases hi : itemsOf d st with
  | some ds =>
    rw [hi] at p
    obtain ⟨a, xs, rfl, rl, ha⟩ := itemsOf_at hi so r
    cases e with
    | int k =>
      cases q
      cases hk : L2.atI ds k with
      | none => simp only [hk] at p; exact p.elim
      | some d' =>
        simp only [hk] at p
        obtain ⟨v', e1, r1⟩ := rl.atI hk
        have fin := p.val so r1
        rcases ha with ha | ha
        · exact ix_list value slice pins s σ H _ _ v u Q I rx ry ⟨a, xs, k, v', rfl, rfl, ha, e1, fin⟩ hs
        · exact ix_tup value slice pins s σ H _ _ v u Q I rx ry ⟨a, xs, k, v', rfl, rfl, ha, e1, fin⟩ hs
    | _ =>
      cases d <;> first | exact p.elim | (simp [itemsOf] at hi)
  | none =>
    rw [hi] at p
    cases d with
    | str z =>
      cases e with
      | int k =>
        cases r; cases q
        simp only at p
        cases hk : L2.atI z k with
        | none => rw [hk] at p; exact p.elim
        | some c =>
          rw [hk] at p
          obtain ⟨hz, p⟩ := Post.ite p
          have e1 : L2.atI (⟨z.toArray⟩ : Str).cps.toList k = some c := by simpa using hk
          exact ix_str value slice pins s σ H _ _ v u Q I rx ry ⟨_, k, c, rfl, rfl, by rw [str_len, ← sz_eq]; exact hz, e1, p.str so⟩ hs
      | _ => exact p.elim
    | _ => exact p.elim
theorem sl_s : SlR X (rSl X.K) := by
  intro pins s σ H x v vl vu lo hi sl Q I rx hs pl pu h
  obtain ⟨d, st, io, so, r, p⟩ := h
  cases d <;> (try exact p.elim)
  · rename_i z
    cases r
    obtain ⟨hz, p⟩ := Post.ite p
    refine sl_str pins s σ H _ v vl vu lo hi sl Q I rx hs pl pu ⟨_, rfl, by rw [str_len, ← sz_eq]; exact hz, ?_⟩
    have e := p.str so
    have e2 : cutS (⟨z.toArray⟩ : Str) lo hi = ⟨(cutD z lo hi).toArray⟩ := by
      unfold cutS cutD
      rw [str_len]
    rw [e2]
    exact e
  · rename_i zs
    obtain ⟨a, xs, rfl, sa, ra⟩ := r
    refine sl_tupA pins s σ H _ v vl vu lo hi sl Q I rx hs pl pu ⟨a, xs, rfl, .of sa, fun hw => ?_, fun _ z n => p.newT so (ra.cut lo hi) z n⟩
    have e : cutD zs lo hi = zs := by
      unfold cutD
      rw [ra.len, hw.1, hw.2, List.drop_zero, Nat.sub_zero, ← ra.len]
      exact List.take_length
    have p' := p.val so (v := .ref a)
    apply p'
    show Rep X.K H io (.tup (cutD zs lo hi)) _
    rw [e]
    exact ⟨a, xs, rfl, sa, ra⟩
  · obtain ⟨a, xs, rfl, sa, ra⟩ := r
    exact sl_list pins s σ H _ v vl vu lo hi sl Q I rx hs pl pu ⟨a, xs, rfl, .of sa.1, fun z n => p.newL so (ra.cut lo hi) z n⟩
  · rename_i n
    obtain ⟨a, ea, rfl⟩ := r
    simp only [slD] at p
    cases q : st[n]? with
    | none => rw [q] at p; exact p.elim
    | some b =>
      rw [q] at p
      cases b with
      | lst zs =>
        obtain ⟨xs, e1, r1⟩ := so.ob n a _ ea q
        exact sl_list pins s σ H _ v vl vu lo hi sl Q I rx hs pl pu ⟨a, xs, rfl, .of e1, fun z n => p.newL so (r1.cut lo hi) z n⟩
      | dct _ _ => exact p.elim
      | frd _ _ => exact p.elim
      | frl _ => exact p.elim
      | ins _ _ _ => exact p.elim

theorem filterMap_all {α β : Type} {f : α → Option β} {g : α → β} : ∀ {l : List α}, (∀ x ∈ l, f x = some (g x)) → l.filterMap f = l.map g
  | [], _ => rfl
  | x :: l, h => by
    rw [List.filterMap_cons_some (h x List.mem_cons_self), List.map_cons, filterMap_all fun y hy => h y (List.mem_cons_of_mem _ hy)]
/-- the tuple turned about -/
theorem adjust_back (n : Nat) : Builtin.Slice.sliceAdjust none none (-1) (n : Int) = ((n : Int) - 1, -1) := by
  unfold Builtin.Slice.sliceAdjust
  simp
theorem places_back (n : Nat) : Builtin.Slice.slicePlaces ((n : Int) - 1) (-1) (-1) = n := by
  unfold Builtin.Slice.slicePlaces
  have h1 : ¬ ((-1 : Int) > 0) := by omega
  simp only [h1, if_false]
  have h2 : (-(-1) : Int) = 1 := by omega
  rw [h2, Int.ediv_one]
  split <;> omega
theorem pick_back (xs : Array Value) : ((List.range xs.size).filterMap fun (m : Nat) => xs[(((xs.size : Int) - 1) + (m : Int) * (-1)).toNat]?).toArray = xs.toList.reverse.toArray := by
  congr 1
  apply List.ext_getElem?
  intro j
  have e : (List.range xs.size).filterMap (fun (m : Nat) => xs[(((xs.size : Int) - 1) + (m : Int) * (-1)).toNat]?) = (List.range xs.size).map fun m => xs.toList.getD (xs.size - 1 - m) .none := by
    apply filterMap_all
    intro m hm
    have hm := List.mem_range.mp hm
    have e1 : (((xs.size : Int) - 1) + (m : Int) * (-1)).toNat = xs.size - 1 - m := by omega
    rw [e1]
    have h2 : xs.size - 1 - m < xs.size := by omega
    simp [h2]
  rw [e, List.getElem?_map]
  by_cases hj : j < xs.size
  · rw [List.getElem?_range hj, List.getElem?_reverse (by simpa using hj)]
    have h2 : xs.size - 1 - j < xs.size := by omega
    simp [h2]
  · rw [List.getElem?_eq_none (by simpa using hj), List.getElem?_eq_none (by simpa using hj)]
    rfl

open Calls in
theorem getItem_back {prog : Program} {w : World} {A : Around} {E : Value → Shared → Prop} {s : Shared} {t sl : Addr} {items : Array Value} {u : Tok} {Q : Value → Shared → Prop} (ht : PyProof.Rows.IsTup s.heap t items) {os : Obj} (hos : s.heap.get? sl = some os) (hcs : os.cls = .type "slice") (hds : os.data = .fields #[.none, .none, .int (-1) u])
    (h : Q (.ref s.heap.objs.size) { s with heap := s.heap.push { cls := .type "tuple", data := .seq items.toList.reverse.toArray } }) (hsz : items.size ≤ sizeLine) : wpAny (model prog w) A (getItem (.ref t) (.ref sl)) Q E s := by
  have hsz' : sizeOk (.seq items.toList.reverse.toArray) := by
    show items.toList.reverse.toArray.size ≤ sizeLine
    rw [List.size_toArray, List.length_reverse, Array.length_toList]
    exact hsz
  have hTs : s.TypeIs (.ref sl) "slice" := ⟨os, hos, hcs⟩
  unfold getItem
  try with_reducible refine wpAny_holding ?_
  first | refine wpAny_bind (wpAny_pure ?_) | skip
  refine wpAny_bind (wpAny_sequenceKey ht.typeIs (by decide) ?_)
  refine wpAny_bind (wpAny_callSpecial?_slot (name := Str.ofString "__getitem__") ht.typeIs PyProof.Rows.slot_tuple_getitem
    (wpAny_call_entry PyProof.Rows.slot_tuple_getitem ht.typeIs PyProof.Rows.entry_tuple_getitem ?_ (PyProof.Rows.args_tuple_getitem _ _)))
  show wpAny _ _ (Builtin.Tuple.tupleItemsOf (.ref t) >>= _) _ _ s
  refine wpAny_bind (PyProof.Rows.tupleItemsOf_ ht ?_)
  refine wpAny_bind (wpAny_typeOf hTs ?_)
  rw [if_pos (by decide)]
  have ap : ∀ {Q' : Int × Int × Nat → Shared → Prop} {E' : Value → Shared → Prop}, Q' ((items.size : Int) - 1, -1, items.size) s → wpAny (model prog w) A.in1 (Builtin.Slice.sliceApplied (.ref sl) (pure (items.size : Int))) Q' E' s := by
    intro Q' E' q
    unfold Builtin.Slice.sliceApplied Builtin.Slice.sliceFields
    refine wpAny_bind (wpAny_bind (wpAny_field hos hds (x := .none) rfl (wpAny_bind (wpAny_field hos hds (x := .none) rfl (wpAny_bind (wpAny_field hos hds (x := .int (-1) u) rfl (wpAny_pure ?_)))))))
    refine wpAny_bind (PyProof.Rows.slicePart_int ?_)
    show wpAny _ _ (if ((-1 : Int) == 0) = true then _ else _) _ _ s
    rw [if_neg (by decide)]
    refine wpAny_bind (PyProof.Rows.slicePart_none (wpAny_bind (PyProof.Rows.slicePart_none (wpAny_bind (wpAny_pure ?_)))))
    show wpAny _ _ (match Builtin.Slice.sliceAdjust none none (-1) (items.size : Int) with | (lo, hi) => pure (lo, (-1 : Int), Builtin.Slice.slicePlaces lo hi (-1))) _ _ s
    rw [adjust_back]
    show wpAny _ _ (pure (((items.size : Int) - 1), (-1 : Int), Builtin.Slice.slicePlaces ((items.size : Int) - 1) (-1) (-1))) _ _ s
    rw [places_back]
    exact wpAny_pure q
  refine wpAny_bind (ap ?_)
  have hno : ¬ ((((items.size : Int) - 1) == 0 && (-1 : Int) == 1 && items.size == items.size) = true) := by
    intro q
    rw [Bool.and_eq_true, Bool.and_eq_true] at q
    exact absurd q.1.2 (by decide)
  show wpAny _ _ (if (((items.size : Int) - 1) == 0 && (-1 : Int) == 1 && items.size == items.size) = true then _ else _) _ _ s
  rw [if_neg hno, pick_back]
  first
    | exact wpAny_bind (m := Builtin.Tuple.tupleExact _) (wpAny_newObj_type (wpAny_pure ⟨_, rfl, wpAny_pure h⟩) hsz')
    | exact wpAny_bind (m := Builtin.Tuple.tupleExact _) (wpAny_newObj_type (wpAny_bind (wpAny_pure (wpAny_pure ⟨_, rfl, wpAny_pure h⟩))) hsz')
    | exact wpAny_bind (wpAny_bind (m := Builtin.Tuple.tupleExact _) (wpAny_newObj_type (wpAny_pure ⟨_, rfl, wpAny_pure h⟩) hsz'))
/-- t[::-1] of a tuple -/
def tRevT (K : PySem.W.Frag) (te : TE) : TE := fun σ H Q => te σ H fun x H1 => ∃ a xs, x = .ref a ∧ SqT K H1 a xs ∧ ∀ p, H1 p = none → Q (.ref p) (upd H1 p (.tup xs.reverse))
theorem pe_revT {X : Cx} {e : Expr} {te : TE} {k : Nat} {p1 p2 p3 pos : Pos} (he : PE X e te) : PE X (.Subscript e (.Slice none none (some (.UnaryOp .USub (.Constant (.int 1) k p1) p2)) p3) pos) (tRevT X.K te) := by
  refine ⟨fun pins s σ H Q I h => ?_⟩
  refine PyProof.Rows.Subscript_ (thn (he.run pins s σ H _ I h) fun v s1 ⟨x, H1, I1, r1, q1⟩ => ?_)
  obtain ⟨a, xs, ex, hx, q⟩ := q1
  subst ex
  cases r1
  have hst : PO X (some (.UnaryOp .USub (.Constant (.int 1) k p1) p2)) (tPart (tUn (rU fun i => .int (-i)) (tC (.int 1)))) := po_some (pe_un un_neg pe_int)
  refine wpAny_Slice (thn (po_none.run pins s1 σ H1 (fun o H2 => o = none ∧ H2 = H1) I1 ⟨rfl, rfl⟩) fun vl s2 ⟨l, H2, I2, pl, el, e2⟩ => ?_)
  subst el e2
  refine thn (po_none.run pins s2 σ H2 (fun o H3 => o = none ∧ H3 = H2) I2 ⟨rfl, rfl⟩) fun vu s3 ⟨u, H3, I3, pu, eu, e3⟩ => ?_
  subst eu e3
  refine thn (hst.run pins s3 σ H3 (fun o H4 => o = some (-1) ∧ H4 = H3) I3 ⟨1, rfl, -1, rfl, rfl, rfl⟩) fun vs s4 ⟨o, H4, I4, ps, eo, e4⟩ => ?_
  subst eo e4
  have I5 : L2.Inv X pins σ H4 { s4 with heap := s4.heap.push { cls := .type "slice", data := .fields #[vl, vu, vs] } } := I4.kept (t' := s4.toks) fun b ob q => Heap.get?_push_of_some _ q
  obtain ⟨its, r, ht, hz⟩ := I5.tuple hx
  have hlen := r.length
  cases pl
  cases pu
  cases ps with
  | int _ u =>
  show wpAny (model X.prog X.w) X.A (PyProof.Rows.subscriptTail e (.Slice none none (some (.UnaryOp .USub (.Constant (.int 1) k p1) p2)) p3) (.ref a) (.ref s4.heap.objs.size)) (EP X pins σ Q) X.xe { s4 with heap := s4.heap.push { cls := .type "slice", data := .fields #[.none, .none, .int (-1) u] } }
  refine PyProof.Rows.tail_any (ops := [.ref a, .ref s4.heap.objs.size]) ht.typeIs PyProof.Rows.slot_tuple_getitem.lookup ?_ (by with_unfolding_all rfl)
  refine getItem_back (u := u) ht (Heap.get?_push_size _ rfl) rfl rfl ?_ (by rw [List.size_toArray]; omega)
  refine ⟨.ref _, _, I5.laid (t' := s4.toks) (o := .tup xs.reverse) (fun b ob q => Heap.get?_push_of_some _ q) (Nat.le_refl _) ?_, rfl, q _ (I5.hok.fresh (Nat.le_refl _))⟩
  exact ⟨by rw [List.length_reverse]; exact hz, _, r.reverse, PyProof.Rows.IsTup.new _ _⟩
end
end Mi

set_option maxRecDepth 100000
set_option maxHeartbeats 4000000
namespace Mi
open PySem PySem.Spec L2

/-! ### truth -/
def truthD (d : D) (st : Sto) : Option Bool := match d with
  | .non => some false
  | .bl b => some b
  | .int i => some (i != 0)
  | .str s => if s.length ≤ sz then some (!s.isEmpty) else none
  | .tup ds => some (!ds.isEmpty)
  | .lst ds => some (!ds.isEmpty)
  | .fro ds => some (!ds.isEmpty)
  | .loc n => (match st[n]? with
    | some (.lst ds) => some (!ds.isEmpty)
    | some (.frl ds) => some (!ds.isEmpty)
    | some (.dct ks _) => some (!ks.isEmpty)
    | _ => none)
  | _ => none
theorem RepL.empty {K : PySem.W.Frag} {H : Hp} {io : Io} {ds : List D} {xs : List V} (r : RepL K H io ds xs) : xs.isEmpty = ds.isEmpty := by
  cases ds with
  | nil => cases r; rfl
  | cons d ds => obtain ⟨_, _, rfl, _⟩ := r; rfl
theorem zip_empty {ks : List KeyD} {xs : List V} (l : ks.length = xs.length) : ((ks.map keyOf).zip xs).isEmpty = ks.isEmpty := by
  cases ks with
  | nil => rfl
  | cons k ks => cases xs with
    | nil => cases l
    | cons _ _ => rfl
theorem truth_at {K : PySem.W.Frag} {H : Hp} {io : Io} {st : Sto} {d : D} {v : V} {k : Bool} (e : truthD d st = some k) (so : StOk K H io st) (r : Rep K H io d v) : TruV K v H k := by
  cases d with
  | non => cases r; cases e; rfl
  | bl b => cases r; cases e; rfl
  | int i => cases r; simp only [truthD, Option.some.injEq] at e; exact e.symm
  | str z =>
    cases r
    simp only [truthD] at e
    split at e
    · rename_i hz
      cases e
      refine ⟨by rw [str_len, ← sz_eq]; exact hz, ?_⟩
      rw [str_len]
      cases z with
      | nil => rfl
      | cons a b =>
        have h1 : ((((a :: b).length : Nat) : Int) != 0) = true := by
          rw [bne_iff_ne, List.length_cons]
          omega
        rw [h1]
        rfl
    · cases e
  | tup ds =>
    obtain ⟨a, xs, rfl, p, r⟩ := r
    simp only [truthD, Option.some.injEq] at e
    exact .inr (.inl ⟨xs, .of p, by rw [r.empty]; exact e.symm⟩)
  | lst ds =>
    obtain ⟨a, xs, rfl, p, r⟩ := r
    simp only [truthD, Option.some.injEq] at e
    exact .inl ⟨xs, .of p.1, by rw [r.empty]; exact e.symm⟩
  | fro ds =>
    obtain ⟨a, xs, rfl, p, r⟩ := r
    simp only [truthD, Option.some.injEq] at e
    exact .inl ⟨xs, p.sql, by rw [r.empty]; exact e.symm⟩
  | dct _ _ => simp [truthD] at e
  | dtu _ _ => simp [truthD] at e
  | loc n =>
    obtain ⟨a, ea, rfl⟩ := r
    cases q : st[n]? with
    | none => simp [truthD, q] at e
    | some b =>
      cases b with
      | lst ds =>
        simp only [truthD, q, Option.some.injEq] at e
        obtain ⟨xs, e1, r1⟩ := so.ob n a _ ea q
        exact .inl ⟨xs, .of e1, by rw [r1.empty]; exact e.symm⟩
      | dct ks vs =>
        simp only [truthD, q, Option.some.injEq] at e
        obtain ⟨xs, e1, l, r1⟩ := so.ob n a _ ea q
        exact .inr (.inr ⟨_, e1, by rw [zip_empty l]; exact e.symm⟩)
      | frl ds =>
        simp only [truthD, q, Option.some.injEq] at e
        obtain ⟨o, xs, e1, r1⟩ := so.ob n a _ ea q
        exact .inl ⟨xs, .inl (.inr ⟨o, e1⟩), by rw [r1.empty]; exact e.symm⟩
      | frd _ _ => simp [truthD, q] at e
      | ins _ _ _ => simp [truthD, q] at e
  | glo _ => simp [truthD] at e
  | ty _ => simp [truthD] at e
  | tuq _ => simp [truthD] at e
  | xcp _ _ _ => simp [truthD] at e

/-! ### built-in functions -/
def lenD (ds : List D) (st : Sto) : R D := match ds with
  | [.str s] => if s.length ≤ sz then .ok (.int s.length) st else .bad
  | [d] => (match itemsOf d st with
    | some xs => .ok (.int xs.length) st
    | none => (match dictOf d st with
      | some (ks, _) => .ok (.int ks.length) st
      | none => .bad))
  | _ => .bad
def boolsOf : List D → Option (List Bool)
  | [] => some []
  | .bl b :: ds => (boolsOf ds).map (b :: ·)
  | _ :: _ => none
theorem boolsOf_eq : ∀ {ds : List D} {bs : List Bool}, boolsOf ds = some bs → ds = bs.map D.bl
  | [], _, h => by cases h; rfl
  | .bl b :: ds, bs, h => by
    unfold boolsOf at h
    cases q : boolsOf ds with
    | none => rw [q] at h; cases h
    | some cs => rw [q] at h; cases h; rw [boolsOf_eq q]; rfl
  | .non :: _, _, h | .int _ :: _, _, h | .str _ :: _, _, h | .tup _ :: _, _, h | .lst _ :: _, _, h | .fro _ :: _, _, h | .dct _ _ :: _, _, h | .dtu _ _ :: _, _, h | .loc _ :: _, _, h | .glo _ :: _, _, h | .ty _ :: _, _, h | .tuq _ :: _, _, h | .xcp _ _ _ :: _, _, h => by simp [boolsOf] at h
theorem boolsOf_map (bs : List Bool) : boolsOf (bs.map D.bl) = some bs := by
  induction bs with
  | nil => rfl
  | cons b bs ih => simp [boolsOf, ih]
def allD (ds : List D) (st : Sto) : R D := match ds with
  | [.lst xs] => (match boolsOf xs with
    | some bs => .ok (.bl (bs.all id)) st
    | none => .bad)
  | _ => .bad
def anyD (ds : List D) (st : Sto) : R D := match ds with
  | [.lst xs] => (match boolsOf xs with
    | some bs => .ok (.bl (bs.any id)) st
    | none => .bad)
  | _ => .bad
def intD (ds : List D) (st : Sto) : R D := match ds with
  | [.int i] => .ok (.int i) st
  | [.bl b] => .ok (.int (if b then 1 else 0)) st
  | _ => .bad
def absD (ds : List D) (st : Sto) : R D := match ds with
  | [.int i] => .ok (.int (if i < 0 then -i else i)) st
  | _ => .bad
def maxD (ds : List D) (st : Sto) : R D := match ds with
  | [.int i, .int j] => .ok (.int (if j > i then j else i)) st
  | _ => .bad
def minD (ds : List D) (st : Sto) : R D := match ds with
  | [.int i, .int j] => .ok (.int (if j < i then j else i)) st
  | _ => .bad
/-- list(..) that is never written; that is written -/
def listD (ds : List D) (st : Sto) : R D := match ds with
  | [d] => (match itemsOf d st with
    | some xs => .ok (.lst xs) st
    | none => .bad)
  | _ => .bad
def listM (ds : List D) (st : Sto) : R D := match ds with
  | [d] => (match itemsOf d st with
    | some xs => .ok (.loc st.length) (st ++ [.lst xs])
    | none => .bad)
  | _ => .bad
def tupleD (ds : List D) (st : Sto) : R D := match ds with
  | [d] => (match itemsOf d st with
    | some xs => .ok (.tup xs) st
    | none => .bad)
  | _ => .bad
/-- a value's type, by number -/
def tyOfD (d : D) (st : Sto) : Option Nat := match d with
  | .non => some 0 | .bl _ => some 1 | .int _ => some 2 | .str _ => some 3 | .tup _ => some 4 | .lst _ => some 5 | .fro _ => some 5
  | .loc n => (match st[n]? with
    | some (.lst _) => some 5
    | some (.dct _ _) => some 6
    | _ => none)
  | _ => none
def isSub (c k : Nat) : Bool := c == k || (c == 1 && k == 2)
/-- isinstance of a built-in type -/
def isiD (ds : List D) (st : Sto) : R D := match ds with
  | [d, .ty n] => (match tyOfD d st with
    | some c => if n < 7 then .ok (.bl (isSub c n)) st else .bad
    | none => .bad)
  | _ => .bad
section
variable {X : Cx}
theorem RepL.one {K : PySem.W.Frag} {H : Hp} {io : Io} {d : D} {xs : List V} (r : RepL K H io [d] xs) : ∃ v, xs = [v] ∧ Rep K H io d v := by
  obtain ⟨v, r, rfl, h, h2⟩ := r
  cases h2
  exact ⟨v, rfl, h⟩
theorem RepL.two {K : PySem.W.Frag} {H : Hp} {io : Io} {d e : D} {xs : List V} (r : RepL K H io [d, e] xs) : ∃ v w, xs = [v, w] ∧ Rep K H io d v ∧ Rep K H io e w := by
  obtain ⟨v, r, rfl, h, h2⟩ := r
  obtain ⟨w, rfl, h3⟩ := h2.one
  exact ⟨v, w, rfl, h, h3⟩
theorem dict_len {ks : List KeyD} {xs : List V} (l : ks.length = xs.length) : ((ks.map keyOf).zip xs).length = ks.length := by
  rw [List.length_zip, List.length_map, ← l, Nat.min_self]
theorem len_s : CallR X (.builtin "len") (rN X.K lenD) := by
  intro pins s σ H xs us Q I r h
  obtain ⟨ds, st, io, so, rl, p⟩ := h
  cases ds with
  | nil => exact p.elim
  | cons d ds =>
    cases ds with
    | cons e ds => cases d <;> exact p.elim
    | nil =>
      obtain ⟨v, rfl, rd⟩ := rl.one
      have gen : ∀ {xs' : List D}, itemsOf d st = some xs' → Q (.int xs'.length) H → wpAny (model X.prog X.w) X.A (call (.builtin "len") us) (EP X pins σ Q) X.xe s := by
        intro xs' hi q
        obtain ⟨a, xs, rfl, rl, ha⟩ := itemsOf_at hi so rd
        refine call_len_seq pins s σ H _ us Q I r ⟨a, xs, rfl, ha, ?_⟩
        rw [← rl.len]; exact q
      have gd : ∀ {ks : List KeyD} {vs : List D}, dictOf d st = some (ks, vs) → Q (.int ks.length) H → wpAny (model X.prog X.w) X.A (call (.builtin "len") us) (EP X pins σ Q) X.xe s := by
        intro ks vs hi q
        obtain ⟨a, xs, rfl, ha, l, rl⟩ := dictOf_at hi so rd
        rw [Vals.ref1 r]
        refine d_len I ha fun t s' I' => ⟨.int _, H, I', ⟨_, rfl⟩, ?_⟩
        rw [dict_len l]
        exact q
      have step : ∀ {m : R D}, (∀ s, d ≠ .str s) → lenD [d] st = (match itemsOf d st with | some xs => .ok (.int xs.length) st | none => (match dictOf d st with | some (ks, _) => .ok (.int ks.length) st | none => .bad)) := by
        intro _ hn
        cases d <;> first | rfl | exact absurd rfl (hn _)
      by_cases hs : ∃ z, d = .str z
      · obtain ⟨z, rfl⟩ := hs
        cases rd
        obtain ⟨hz, p⟩ := Post.ite p
        refine call_len_str pins s σ H _ us Q I r ⟨_, rfl, by rw [str_len, ← sz_eq]; exact hz, ?_⟩
        rw [str_len]
        exact p.int so
      · rw [step (m := .bad) fun z e => hs ⟨z, e⟩] at p
        cases hi : itemsOf d st with
        | some xs' =>
          rw [hi] at p
          exact gen hi (p.int so)
        | none =>
          rw [hi] at p
          cases hd : dictOf d st with
          | some kv =>
            obtain ⟨ks, vs⟩ := kv
            rw [hd] at p
            exact gd hd (p.int so)
          | none => rw [hd] at p; exact p.elim
theorem all_s (hc : X.calm = true) : CallR X (.builtin "all") (rN X.K allD) := by
  intro pins s σ H xs us Q I r h
  obtain ⟨ds, st, io, so, rl, p⟩ := h
  unfold allD at p
  split at p
  · rename_i zs
    obtain ⟨v, rfl, rd⟩ := rl.one
    cases hb : boolsOf zs with
    | none => rw [hb] at p; exact p.elim
    | some bs =>
      rw [hb] at p
      obtain ⟨a, ys, rfl, ha, rl2⟩ := rd
      have e := rl2.bools (boolsOf_eq hb)
      subst e
      exact cr_all hc pins s σ H _ us Q I r ⟨a, bs, rfl, .of ha.1, p.bl so⟩
  · exact p.elim
theorem any_s (hc : X.calm = true) : CallR X (.builtin "any") (rN X.K anyD) := by
  intro pins s σ H xs us Q I r h
  obtain ⟨ds, st, io, so, rl, p⟩ := h
  unfold anyD at p
  split at p
  · rename_i zs
    obtain ⟨v, rfl, rd⟩ := rl.one
    cases hb : boolsOf zs with
    | none => rw [hb] at p; exact p.elim
    | some bs =>
      rw [hb] at p
      obtain ⟨a, ys, rfl, ha, rl2⟩ := rd
      have e := rl2.bools (boolsOf_eq hb)
      subst e
      exact cr_any hc pins s σ H _ us Q I r ⟨a, bs, rfl, .of ha.1, p.bl so⟩
  · exact p.elim
theorem int_s : CallR X (.type "int") (rN X.K intD) := by
  intro pins s σ H xs us Q I r h
  obtain ⟨ds, st, io, so, rl, p⟩ := h
  unfold intD at p
  split at p
  · obtain ⟨v, rfl, rd⟩ := rl.one
    cases rd
    exact call_int1 pins s σ H _ us Q I r (.inl ⟨_, rfl, p.int so⟩)
  · obtain ⟨v, rfl, rd⟩ := rl.one
    cases rd
    exact call_int1 pins s σ H _ us Q I r (.inr ⟨_, rfl, p.int so⟩)
  · exact p.elim
theorem abs_s : CallR X (.builtin "abs") (rN X.K absD) := by
  intro pins s σ H xs us Q I r h
  obtain ⟨ds, st, io, so, rl, p⟩ := h
  unfold absD at p
  split at p
  · obtain ⟨v, rfl, rd⟩ := rl.one
    cases rd
    exact call_abs pins s σ H _ us Q I r ⟨_, rfl, p.int so⟩
  · exact p.elim
theorem max_s (hc : X.calm = true) : CallR X (.builtin "max") (rN X.K maxD) := by
  intro pins s σ H xs us Q I r h
  obtain ⟨ds, st, io, so, rl, p⟩ := h
  unfold maxD at p
  split at p
  · obtain ⟨v, w, rfl, rd, re⟩ := rl.two
    cases rd; cases re
    exact call_max2 hc pins s σ H _ us Q I r ⟨_, _, rfl, p.int so⟩
  · exact p.elim
theorem min_s (hc : X.calm = true) : CallR X (.builtin "min") (rN X.K minD) := by
  intro pins s σ H xs us Q I r h
  obtain ⟨ds, st, io, so, rl, p⟩ := h
  unfold minD at p
  split at p
  · obtain ⟨v, w, rfl, rd, re⟩ := rl.two
    cases rd; cases re
    exact call_min2 hc pins s σ H _ us Q I r ⟨_, _, rfl, p.int so⟩
  · exact p.elim
theorem list_s : CallR X (.type "list") (rN X.K listD) := by
  intro pins s σ H xs us Q I r h
  obtain ⟨ds, st, io, so, rl, p⟩ := h
  unfold listD at p
  split at p
  · rename_i d
    obtain ⟨v, rfl, rd⟩ := rl.one
    cases hi : itemsOf d st with
    | none => rw [hi] at p; exact p.elim
    | some zs =>
      rw [hi] at p
      obtain ⟨a, ys, rfl, rl2, ha⟩ := itemsOf_at hi so rd
      exact call_list_of pins s σ H _ us Q I r ⟨a, ys, rfl, ha, fun z n => p.newL so rl2 z n⟩
  · exact p.elim
theorem listM_s : CallR X (.type "list") (rN X.K listM) := by
  intro pins s σ H xs us Q I r h
  obtain ⟨ds, st, io, so, rl, p⟩ := h
  unfold listM at p
  split at p
  · rename_i d
    obtain ⟨v, rfl, rd⟩ := rl.one
    cases hi : itemsOf d st with
    | none => rw [hi] at p; exact p.elim
    | some zs =>
      rw [hi] at p
      obtain ⟨a, ys, rfl, rl2, ha⟩ := itemsOf_at hi so rd
      exact call_list_of pins s σ H _ us Q I r ⟨a, ys, rfl, ha, fun z n => p.pushL so rl2 z n⟩
  · exact p.elim
theorem tuple_s : CallR X (.type "tuple") (rN X.K tupleD) := by
  intro pins s σ H xs us Q I r h
  obtain ⟨ds, st, io, so, rl, p⟩ := h
  unfold tupleD at p
  split at p
  · rename_i d
    obtain ⟨v, rfl, rd⟩ := rl.one
    cases hi : itemsOf d st with
    | none => rw [hi] at p; exact p.elim
    | some zs =>
      rw [hi] at p
      obtain ⟨a, ys, rfl, rl2, ha⟩ := itemsOf_t hi so rd
      refine call_tuple_of pins s σ H _ us Q I r ⟨a, ys, rfl, ?_⟩
      rcases ha with ha | ha
      · exact .inl ⟨ha, fun z n => p.newT so rl2 z n⟩
      · exact .inr ⟨.of ha, p.val so ⟨a, ys, rfl, ha, rl2⟩⟩
  · exact p.elim
theorem kit_all : ∀ c : Fin 7, ∀ k : Fin 7, kitB (tyN c.val) (tyN k.val) = some (isSub c.val k.val) := by decide +kernel
theorem tyOfD_at {K : PySem.W.Frag} {H : Hp} {io : Io} {st : Sto} {d : D} {v : V} {c : Nat} (e : tyOfD d st = some c) (so : StOk K H io st) (r : Rep K H io d v) : c < 7 ∧ TyX K H v (.type (tyN c)) := by
  cases d with
  | non => cases r; cases e; exact ⟨by decide, .base .non⟩
  | bl b => cases r; cases e; exact ⟨by decide, .base (.bl b)⟩
  | int b => cases r; cases e; exact ⟨by decide, .base (.int b)⟩
  | str b => cases r; cases e; exact ⟨by decide, .base (.str _)⟩
  | tup ds =>
    obtain ⟨a, xs, rfl, p, r⟩ := r
    cases e
    refine ⟨by decide, ?_⟩
    rcases (show SqT K H a xs from .of p) with (p | ⟨o, p⟩) | ⟨o, its, n, l, c, _⟩
    · exact .base (.tup p)
    · exact .fTuple p
    · exact .kTuple l c
  | lst ds =>
    obtain ⟨a, xs, rfl, p, r⟩ := r
    cases e
    exact ⟨by decide, .base (.lst p.1)⟩
  | fro ds =>
    obtain ⟨a, xs, rfl, p, r⟩ := r
    cases e
    refine ⟨by decide, ?_⟩
    rcases p with ⟨o, p⟩ | ⟨o, its, n, l, c, _⟩
    · exact .base (.frz p.1)
    · exact .kList l c
  | dct _ _ => simp [tyOfD] at e
  | dtu _ _ => simp [tyOfD] at e
  | loc n =>
    obtain ⟨a, ea, rfl⟩ := r
    cases q : st[n]? with
    | none => simp [tyOfD, q] at e
    | some b =>
      cases b with
      | lst ds =>
        simp only [tyOfD, q, Option.some.injEq] at e
        subst e
        obtain ⟨xs, e1, r1⟩ := so.ob n a _ ea q
        exact ⟨by decide, .base (.lst e1)⟩
      | dct ks vs =>
        simp only [tyOfD, q, Option.some.injEq] at e
        subst e
        obtain ⟨xs, e1, l, r1⟩ := so.ob n a _ ea q
        exact ⟨by decide, .base (.dK e1)⟩
      | frd _ _ => simp [tyOfD, q] at e
      | frl _ => simp [tyOfD, q] at e
      | ins _ _ _ => simp [tyOfD, q] at e
  | glo _ => simp [tyOfD] at e
  | ty _ => simp [tyOfD] at e
  | tuq _ => simp [tyOfD] at e
  | xcp _ _ _ => simp [tyOfD] at e
theorem isi_s : CallR X (.builtin "isinstance") (rN X.K isiD) := by
  intro pins s σ H xs us Q I r h
  obtain ⟨ds, st, io, so, rl, p⟩ := h
  unfold isiD at p
  split at p
  · rename_i d n
    obtain ⟨v, w, rfl, rd, re⟩ := rl.two
    cases re
    cases hc : tyOfD d st with
    | none => rw [hc] at p; exact p.elim
    | some c =>
      rw [hc] at p
      obtain ⟨hc7, ty⟩ := tyOfD_at hc so rd
      simp only at p
      split at p
      · rename_i hn
        have q := p.bl so
        exact call_isi pins s σ H _ us Q I r ⟨v, _, _, _, isSub c n, rfl, .ty _, ty, kit_ty (kit_all ⟨c, hc7⟩ ⟨n, hn⟩), q⟩
      · exact p.elim
  · exact p.elim
end
end Mi

set_option maxRecDepth 100000
set_option maxHeartbeats 4000000
namespace Mi
open PySem PySem.Spec L2

/-! ### repr -/
mutual
def pyOf : D → Option PyData
  | .non => some .none
  | .bl b => some (.bool b)
  | .int i => some (.int i)
  | .str s => some (.str ⟨s.toArray⟩)
  | .tup ds => (pyOfs ds).map .tuple
  | .lst ds => (pyOfs ds).map .list
  | .fro ds => (pyOfs ds).map .list
  | .dct ks _ => (match ks with
    | [] => some (.dict [])
    | _ => none)
  | _ => none
def pyOfs : List D → Option (List PyData)
  | [] => some []
  | d :: ds => (match pyOf d, pyOfs ds with
    | some p, some ps => some (p :: ps)
    | _, _ => none)
end
def SysD (K : PySem.W.Frag) : Prop := ∃ o es n, K.lookup sysModules = some o ∧ o.data = .dict es n
section
variable {X : Cx} {pins : List (Addr × Obj)} {σ : St} {H : Hp} {s : Shared} {io : Io}
theorem not_sys (hs : SysD X.K) (I : Inv X pins σ H s) {a : Addr} {o : Obj} {vs : Array Value} {n : Nat} (h : s.heap.get? a = some o) (hd : o.data = .seq vs n) : a ≠ sysModules := by
  obtain ⟨o', es, n', hl, hd'⟩ := hs
  intro e
  rw [e, I.kIn _ _ hl] at h
  cases h
  rw [hd'] at hd
  cases hd
mutual
theorem rep_reads (hs : SysD X.K) (I : Inv X pins σ H s) : ∀ (d : D) (v : V) (u : Value) (p : PyData), pyOf d = some p → Rep X.K H io d v → RelV v u → ∃ as, Reads s.heap u p as ∧ sysModules ∉ as
  | .non, _, _, _, e, r, q => by cases e; cases r; cases q; exact ⟨_, .none, by simp⟩
  | .bl b, _, _, _, e, r, q => by cases e; cases r; cases q; exact ⟨_, .bool b, by simp⟩
  | .int i, _, _, _, e, r, q => by cases e; cases r; obtain ⟨t, rfl⟩ := q; exact ⟨_, .int i t, by simp⟩
  | .str x, _, _, _, e, r, q => by cases e; cases r; obtain ⟨t, rfl⟩ := q; exact ⟨_, .str _ t, by simp⟩
  | .tup ds, _, _, _, e, r, q => by
    obtain ⟨a, xs, rfl, hq, rl⟩ := r
    cases q
    unfold pyOf at e
    cases e2 : pyOfs ds with
    | none => rw [e2] at e; cases e
    | some ps =>
      rw [e2] at e; cases e
      obtain ⟨its, rv, ⟨o, ho, hc, n, hd⟩, _⟩ := I.tuple (.of hq)
      obtain ⟨as, hr, hn⟩ := rep_readsAll hs I ds _ its ps e2 rl rv
      exact ⟨as, .tuple ho hc hd hr, hn⟩
  | .lst ds, _, _, _, e, r, q => by
    obtain ⟨a, xs, rfl, hq, rl⟩ := r
    cases q
    unfold pyOf at e
    cases e2 : pyOfs ds with
    | none => rw [e2] at e; cases e
    | some ps =>
      rw [e2] at e; cases e
      obtain ⟨its, rv, ⟨o, n, ho, hc, _, hd⟩, _⟩ := I.list (.of hq.1)
      obtain ⟨as, hr, hn⟩ := rep_readsAll hs I ds _ its ps e2 rl rv
      exact ⟨a :: as, .list ho hc hd hr, fun m => by
        rcases List.mem_cons.mp m with m | m
        · exact not_sys hs I ho hd m.symm
        · exact hn m⟩
  | .fro ds, _, _, _, e, r, q => by
    obtain ⟨a, xs, rfl, hq, rl⟩ := r
    cases q
    unfold pyOf at e
    cases e2 : pyOfs ds with
    | none => rw [e2] at e; cases e
    | some ps =>
      rw [e2] at e; cases e
      obtain ⟨its, rv, ⟨o, n, ho, hc, _, hd⟩, _⟩ := I.list hq.sql
      obtain ⟨as, hr, hn⟩ := rep_readsAll hs I ds _ its ps e2 rl rv
      exact ⟨a :: as, .list ho hc hd hr, fun m => by
        rcases List.mem_cons.mp m with m | m
        · exact not_sys hs I ho hd m.symm
        · exact hn m⟩
  | .dct ks vs, _, _, _, e, r, q => by
    obtain ⟨a, xs, rfl, hq, hl, rl⟩ := r
    cases q
    cases ks with
    | cons k ks => simp [pyOf] at e
    | nil =>
      simp only [pyOf, Option.some.injEq] at e
      subst e
      obtain ⟨hz, hS, kvs, rk, o, es, ep, ho, hex, hd, hk, hp, hn⟩ : ([] : List (Key × V)).length ≤ sizeLine ∧ (a == sysModules) = false ∧ ∃ vs, KV ([] : List (Key × V)) vs ∧ s.heap.DictOf (mixKind X.prog X.w) a vs := (I.hok a _ hq.choose_spec.1).2
      cases rk
      have he : es.toList = [] := by
        cases h : es.toList with
        | nil => rfl
        | cons _ _ => rw [h] at hp; cases hp
      refine ⟨[a], .dict (as := []) (bs := []) ho hex.1 hd (by rw [he]; exact .nil) (by rw [he]; exact .nil), fun m => ?_⟩
      rw [List.mem_singleton] at m
      exact absurd m.symm (beq_eq_false_iff_ne.mp hS)
  | .loc _, _, _, _, e, _, _ => by simp [pyOf] at e
  | .glo _, _, _, _, e, _, _ => by simp [pyOf] at e
  | .ty _, _, _, _, e, _, _ => by simp [pyOf] at e
theorem rep_readsAll (hs : SysD X.K) (I : Inv X pins σ H s) : ∀ (ds : List D) (vs : List V) (us : List Value) (ps : List PyData), pyOfs ds = some ps → RepL X.K H io ds vs → Vals vs us → ∃ as, ReadsAll s.heap us ps as ∧ sysModules ∉ as
  | [], _, _, _, e, r, q => by cases e; cases r; cases q; exact ⟨_, .nil, by simp⟩
  | d :: ds, _, _, _, e, r, q => by
    obtain ⟨v, vs, rfl, r1, r2⟩ := r
    cases q with
    | cons q1 q2 =>
      unfold pyOfs at e
      cases e1 : pyOf d with
      | none => rw [e1] at e; cases e
      | some p =>
        cases e2 : pyOfs ds with
        | none => rw [e1, e2] at e; cases e
        | some ps =>
          rw [e1, e2] at e; cases e
          obtain ⟨as, h1, n1⟩ := rep_reads hs I d _ _ p e1 r1 q1
          obtain ⟨bs, h2, n2⟩ := rep_readsAll hs I ds _ _ ps e2 r2 q2
          exact ⟨as ++ bs, .cons h1 h2, fun m => (List.mem_append.mp m).elim n1 n2⟩
end
def shownD (d : D) : Option (List Nat) := match pyOf d with
  | some p => if p.showable = true ∧ p.depth ≤ 40 ∧ p.shown.length ≤ sz then some p.shown.cps.toList else none
  | none => none
def reprD (ds : List D) (st : Sto) : R D := match ds with
  | [d] => (match shownD d with
    | some x => .ok (.str x) st
    | none => .bad)
  | _ => .bad
theorem str_back (x : Str) : (⟨x.cps.toList.toArray⟩ : Str) = x := by
  obtain ⟨c⟩ := x
  simp
theorem repr_s (hu : X.A.units + 64 < cLine) (hg : X.A.guards = some []) (hs : SysD X.K) : CallR X (.builtin "repr") (rN X.K reprD) := by
  intro pins s σ H xs us Q I r h
  obtain ⟨ds, st, io, so, rl, p⟩ := h
  unfold reprD at p
  split at p
  · rename_i d
    obtain ⟨v, rfl, rd⟩ := rl.one
    unfold shownD at p
    cases e : pyOf d with
    | none => simp only [e] at p; exact p.elim
    | some q =>
      simp only [e] at p
      by_cases hc : q.showable = true ∧ q.depth ≤ 40 ∧ q.shown.length ≤ sz
      · rw [if_pos hc] at p
        obtain ⟨h1, h2, h3⟩ := hc
        rw [sz_eq] at h3
        have hq := p.str so
        rw [str_back] at hq
        cases r with
        | cons r rr =>
          cases rr
          rename_i u
          obtain ⟨as, hr, hn⟩ := rep_reads hs I d v u q e rd r
          have fin : ∀ (t : Tok) (s' : Shared), Inv X pins σ H s' → EP X pins σ Q (.str q.shown t) s' := fun t s' I' => ⟨.str q.shown, H, I', ⟨t, rfl⟩, hq⟩
          cases hr with
          | none => exact PySem.P.repr_of_none (fin _ _ (I.tok _))
          | bool b => exact PySem.P.repr_of_bool (fin _ _ (I.tok _))
          | int i t => exact PySem.P.repr_of_int (by simpa [PyData.showable] using h1) (fin _ _ (I.tok _))
          | str x t => exact PySem.P.repr_of_str (fin _ _ (I.tok _)) h3
          | list a1 a2 a3 a4 => exact repr_of_reads' (.list a1 a2 a3 a4) h1 (fun _ => hn) hg (by omega) (fun _ _ z => z) (fun h' u tk k => fin _ _ (I.kept k)) h3
          | tuple a1 a2 a3 a4 => exact repr_of_reads' (.tuple a1 a2 a3 a4) h1 (fun _ => hn) hg (by omega) (fun _ _ z => z) (fun h' u tk k => fin _ _ (I.kept k)) h3
          | dict a1 a2 a3 a4 a5 => exact repr_of_reads' (.dict a1 a2 a3 a4 a5) h1 (fun _ => hn) hg (by omega) (fun _ _ z => z) (fun h' u tk k => fin _ _ (I.kept k)) h3
      · rw [if_neg hc] at p; exact p.elim
  · exact p.elim
end
end Mi

set_option maxRecDepth 100000
set_option maxHeartbeats 4000000
namespace Mi
open PySem PySem.Spec L2

/-! ### sorted(set(..)) of ints -/
def insU (x : Int) : List Int → List Int
  | [] => [x]
  | y :: r => if x < y then x :: y :: r else if x = y then y :: r else y :: insU x r
def sortU : List Int → List Int
  | [] => []
  | x :: r => insU x (sortU r)
theorem mem_insU (x z : Int) : ∀ l : List Int, z ∈ insU x l ↔ z = x ∨ z ∈ l
  | [] => by simp [insU]
  | y :: r => by
    unfold insU
    split
    · simp
    · split
      · rename_i h; subst h; simp
      · rw [List.mem_cons, mem_insU x z r, List.mem_cons]
        constructor
        · rintro (h | h | h)
          · exact .inr (.inl h)
          · exact .inl h
          · exact .inr (.inr h)
        · rintro (h | h | h)
          · exact .inr (.inl h)
          · exact .inl h
          · exact .inr (.inr h)
theorem mem_sortU (z : Int) : ∀ l : List Int, z ∈ sortU l ↔ z ∈ l
  | [] => by simp [sortU]
  | x :: r => by unfold sortU; rw [mem_insU, mem_sortU z r, List.mem_cons]
theorem insU_up (x : Int) : ∀ {l : List Int}, l.Pairwise (· < ·) → (insU x l).Pairwise (· < ·)
  | [], _ => by simp [insU]
  | y :: r, h => by
    rw [List.pairwise_cons] at h
    unfold insU
    split
    · rename_i hxy
      rw [List.pairwise_cons]
      refine ⟨fun z hz => ?_, by rw [List.pairwise_cons]; exact h⟩
      rcases List.mem_cons.mp hz with e | hz
      · rw [e]; exact hxy
      · have := h.1 z hz; omega
    · split
      · rw [List.pairwise_cons]; exact h
      · rw [List.pairwise_cons]
        refine ⟨fun z hz => ?_, insU_up x h.2⟩
        rcases (mem_insU x z r).mp hz with e | hz
        · omega
        · exact h.1 z hz
theorem sortU_up : ∀ l : List Int, (sortU l).Pairwise (· < ·)
  | [] => by simp [sortU]
  | x :: r => insU_up x (sortU_up r)
theorem up_eq : ∀ {a b : List Int}, a.Pairwise (· < ·) → b.Pairwise (· < ·) → (∀ z, z ∈ a ↔ z ∈ b) → a = b
  | [], [], _, _, _ => rfl
  | [], y :: b, _, _, h => by have := (h y).mpr (by simp); simp at this
  | x :: a, [], _, _, h => by have := (h x).mp (by simp); simp at this
  | x :: a, y :: b, ha, hb, h => by
    rw [List.pairwise_cons] at ha hb
    have e : x = y := by
      have h1 := (h x).mp (by simp)
      have h2 := (h y).mpr (by simp)
      rcases List.mem_cons.mp h1 with e | h1
      · exact e
      · rcases List.mem_cons.mp h2 with e | h2
        · exact e.symm
        · have q1 := hb.1 x h1
          have q2 := ha.1 y h2
          omega
    subst e
    congr 1
    refine up_eq ha.2 hb.2 fun z => ⟨fun hz => ?_, fun hz => ?_⟩
    · rcases List.mem_cons.mp ((h z).mp (List.mem_cons_of_mem _ hz)) with e | q
      · have := ha.1 z hz; omega
      · exact q
    · rcases List.mem_cons.mp ((h z).mpr (List.mem_cons_of_mem _ hz)) with e | q
      · have := hb.1 z hz; omega
      · exact q
theorem sortU_id {l : List Int} (h : l.Pairwise (· < ·)) : sortU l = l := up_eq (sortU_up l) h fun z => mem_sortU z l
def intsOf : List D → Option (List Int)
  | [] => some []
  | .int i :: ds => (intsOf ds).map (i :: ·)
  | _ :: _ => none
theorem intsOf_eq : ∀ {ds : List D} {ns : List Int}, intsOf ds = some ns → ds = ns.map D.int
  | [], _, h => by cases h; rfl
  | .int i :: ds, ns, h => by
    unfold intsOf at h
    cases q : intsOf ds with
    | none => rw [q] at h; cases h
    | some cs => rw [q] at h; cases h; rw [intsOf_eq q]; rfl
  | .non :: _, _, h | .bl _ :: _, _, h | .str _ :: _, _, h | .tup _ :: _, _, h | .lst _ :: _, _, h | .fro _ :: _, _, h | .dct _ _ :: _, _, h | .dtu _ _ :: _, _, h | .loc _ :: _, _, h | .glo _ :: _, _, h | .ty _ :: _, _, h | .tuq _ :: _, _, h | .xcp _ _ _ :: _, _, h => by simp [intsOf] at h
theorem intsOf_map (ns : List Int) : intsOf (ns.map D.int) = some ns := by
  induction ns with
  | nil => rfl
  | cons b bs ih => simp [intsOf, ih]
def ssetD (d : D) (st : Sto) : R D := match d with
  | .tup ds => (match intsOf ds with
    | some ns => if ns.length < 64 then .ok (.lst ((sortU ns).map .int)) st else .bad
    | none => .bad)
  | _ => .bad
/-! ### .upper() -/
def upperD (d : D) (st : Sto) : R D := match d with
  | .str s => if s.length ≤ 5592405 then .ok (.str (Txt.upper ⟨s.toArray⟩).cps.toList) st else .bad
  | _ => .bad
section
variable {X : Cx}
def rSetTI (K : PySem.W.Frag) (w : World) : List V → Hp → VK → Prop := fun vs H Q => ∃ (a : Addr) (ns : List Int), vs = [.ref a] ∧ SqT K H a (ns.map V.int) ∧ ns.length ≤ 1000 ∧ ∀ (q : Addr) (c : Nat), c ≤ ns.length → H q = none → Q (.ref q) (upd H q (SetO w q (fun j => decide (j ∈ ns)) c))
theorem cr_setTI (hc : X.calm = true) : CallR X (.type "set") (rSetTI X.K X.w) := by
  intro pins s σ H xs us Q I r h
  obtain ⟨a, ns, rfl, hq, hl, q⟩ := h
  cases r with
  | cons r rr =>
    cases rr
    cases r
    obtain ⟨its, rv, pt, hz⟩ := I.tuple hq
    refine call_set_tupI ns (I.ok.hd hc) (show s.heap.IsTuple a its.toArray from pt) (ints_of_vals rv) (by unfold scanBound; omega) fun h' tk c R1 hcn k => ?_
    exact ⟨.ref s.heap.objs.size, _, I.laid k (Nat.le_refl _) (setO_new R1), rfl, q _ c hcn (I.hok.fresh (Nat.le_refl _))⟩
end
end Mi

set_option maxRecDepth 100000
set_option maxHeartbeats 4000000
/-! instances: their fields read and stored, their methods called, new ones made -/
namespace Mi
open PySem PySem.Spec L2

/-! ### fields -/
def lookN {α : Type} : List Nat → List α → Nat → Option α
  | g :: gs, v :: vs, f => if g = f then some v else lookN gs vs f
  | _, _, _ => none
def putN {α : Type} : List Nat → List α → Nat → α → List Nat × List α
  | g :: gs, v :: vs, f, x => if g = f then (g :: gs, x :: vs) else (g :: (putN gs vs f x).1, v :: (putN gs vs f x).2)
  | _, _, f, x => ([f], [x])
theorem lookN_at {K : PySem.W.Frag} {H : Hp} {io : Io} {f : Nat} (hf : f < 1104) : ∀ {fs : List Nat} {ds : List D} {xs : List V} {d : D}, (∀ g ∈ fs, g < 1104) → RepL K H io ds xs → lookN fs ds f = some d → ∃ v, ((fs.map nm).zip xs).lookup (nm f) = some v ∧ Rep K H io d v
  | [], _, _, _, _, _, e => by cases e
  | _ :: _, [], _, _, _, _, e => by cases e
  | g :: gs, d0 :: ds, _, d, hb, r, e => by
    obtain ⟨y, ys, rfl, r1, r2⟩ := r
    unfold lookN at e
    rw [List.map_cons, List.zip_cons_cons, List.lookup_cons]
    by_cases h : g = f
    · rw [if_pos h] at e
      cases e
      rw [h, beq_self_eq_true]
      exact ⟨y, rfl, r1⟩
    · rw [if_neg h] at e
      have ne : (nm f == nm g) = false := beq_eq_false_iff_ne.mpr fun z => h (nm_inj (hb g (by simp)) hf z.symm)
      rw [ne]
      exact lookN_at hf (fun x hx => hb x (List.mem_cons_of_mem _ hx)) r2 e
theorem lookN_no {K : PySem.W.Frag} {H : Hp} {io : Io} {f : Nat} (hf : f < 1104) : ∀ {fs : List Nat} {ds : List D} {xs : List V}, (∀ g ∈ fs, g < 1104) → fs.length = xs.length → RepL K H io ds xs → lookN fs ds f = none → ((fs.map nm).zip xs).lookup (nm f) = none
  | [], _, _, _, _, _, _ => rfl
  | g :: gs, [], _, _, hl, r, _ => by cases r; simp at hl
  | g :: gs, d0 :: ds, _, hb, hl, r, e => by
    obtain ⟨y, ys, rfl, r1, r2⟩ := r
    unfold lookN at e
    rw [List.map_cons, List.zip_cons_cons, List.lookup_cons]
    by_cases h : g = f
    · rw [if_pos h] at e; cases e
    · rw [if_neg h] at e
      have ne : (nm f == nm g) = false := beq_eq_false_iff_ne.mpr fun z => h (nm_inj (hb g (by simp)) hf z.symm)
      rw [ne]
      exact lookN_no hf (fun x hx => hb x (List.mem_cons_of_mem _ hx)) (by simpa using hl) r2 e
theorem putN_at {K : PySem.W.Frag} {H : Hp} {io : Io} {f : Nat} (hf : f < 1104) {d : D} {v : V} (rd : Rep K H io d v) : ∀ {fs : List Nat} {ds : List D} {xs : List V}, (∀ g ∈ fs, g < 1104) → fs.length = xs.length → RepL K H io ds xs →
    (∀ g ∈ (putN fs ds f d).1, g < 1104) ∧ ∃ ys, putF (nm f) v ((fs.map nm).zip xs) = ((putN fs ds f d).1.map nm).zip ys ∧ (putN fs ds f d).1.length = ys.length ∧ RepL K H io (putN fs ds f d).2 ys
  | [], ds, xs, _, hl, r => by
    cases xs with
    | cons _ _ => simp at hl
    | nil =>
      cases ds with
      | cons _ _ => obtain ⟨_, _, z, _⟩ := r; cases z
      | nil => exact ⟨fun g hg => by rw [List.mem_singleton.mp hg]; exact hf, [v], rfl, rfl, .cons rd .nil⟩
  | g :: gs, [], xs, _, hl, r => by cases r; simp at hl
  | g :: gs, d0 :: ds, _, hb, hl, r => by
    obtain ⟨y, ys, rfl, r1, r2⟩ := r
    have e0 : putF (nm f) v (((g :: gs).map nm).zip (y :: ys)) = if nm g = nm f then (nm g, v) :: (gs.map nm).zip ys else (nm g, y) :: putF (nm f) v ((gs.map nm).zip ys) := rfl
    rw [e0]
    unfold putN
    by_cases h : g = f
    · rw [if_pos h, if_pos (by rw [h])]
      refine ⟨hb, v :: ys, rfl, hl, .cons rd r2⟩
    · rw [if_neg h, if_neg fun z => h (nm_inj (hb g (by simp)) hf z)]
      obtain ⟨b, zs, e, l, r3⟩ := putN_at hf rd (fun x hx => hb x (List.mem_cons_of_mem _ hx)) (by simpa using hl) r2
      refine ⟨fun x hx => ?_, y :: zs, by rw [e]; rfl, by simpa using l, .cons r1 r3⟩
      rcases List.mem_cons.mp hx with z | hx
      · rw [z]; exact hb g (by simp)
      · exact b x hx
/-- the fields that a class's objects may be asked for -/
abbrev Fld := Nat → Nat → Bool
structure FldOk (K : PySem.W.Frag) (F : Fld) : Prop where
  ok : ∀ c f, F c f = true → f < 1104 ∧ Cls K (He.ga K (nm c)) ∧ NoAttr K (He.ga K (nm c)) (nm f)
def fldD (F : Fld) (f : Nat) (x : D) (st : Sto) : R D := match x with
  | .loc n => (match st[n]? with
    | some (.ins c fs vs) => if F c f = true then ofO' (lookN fs vs f) st else .bad
    | _ => .bad)
  | _ => .bad
where ofO' : Option D → Sto → R D
  | some d, st => .ok d st
  | none, _ => .bad
/-- the class of an object of the store -/
def clsD (x : D) (st : Sto) : Option Nat := match x with
  | .loc n => (match st[n]? with
    | some (.ins c _ _) => some c
    | _ => none)
  | _ => none
/-- x.f = v: the store behind it -/
def putFldD (F : Fld) (f : Nat) (x v : D) (st : Sto) : Option Sto := match x with
  | .loc n => (match st[n]? with
    | some (.ins c fs vs) => if F c f = true ∧ fs.length < 1000 then some (st.set n (.ins c (putN fs vs f v).1 (putN fs vs f v).2)) else none
    | _ => none)
  | _ => none
section
variable {K : PySem.W.Frag} {H : Hp} {io : Io} {st : Sto} {F : Fld} {f : Nat} {x d : D} {v : V}
theorem fldD_at {st' : Sto} (hF : FldOk K F) (e : fldD F f x st = .ok d st') (so : StOk K H io st) (r : Rep K H io x v) : st' = st ∧ ∃ a c dx fs u, clsD x st = some c ∧ v = .ref a ∧ H a = some (.ins (He.ga K (nm c)) dx fs) ∧ Cls K (He.ga K (nm c)) ∧ NoAttr K (He.ga K (nm c)) (nm f) ∧ fs.lookup (nm f) = some u ∧ Rep K H io d u := by
  unfold fldD at e
  split at e
  · rename_i n
    obtain ⟨a, ea, rfl⟩ := r
    split at e
    · rename_i c fs vs hq
      split at e
      · rename_i hb
        obtain ⟨h1, h2, h3⟩ := hF.ok c f hb
        obtain ⟨hl, dx, xs, eH, len, rl⟩ := so.ob n a _ ea hq
        cases hk : lookN fs vs f with
        | none => rw [hk] at e; cases e
        | some d' =>
          rw [hk] at e
          cases e
          obtain ⟨u, e1, r1⟩ := lookN_at h1 hl rl hk
          exact ⟨rfl, a, c, dx, _, u, by simp only [clsD, hq], rfl, eH, h2, h3, e1, r1⟩
      · cases e
    · cases e
  · cases e
theorem putFldD_at {st' : Sto} {w : D} {y : V} (hF : FldOk K F) (e : putFldD F f x w st = some st') (so : StOk K H io st) (r : Rep K H io x v) (rw_ : Rep K H io w y) :
    ∃ a c dx fs, clsD x st = some c ∧ v = .ref a ∧ H a = some (.ins (He.ga K (nm c)) dx fs) ∧ Cls K (He.ga K (nm c)) ∧ NoAttr K (He.ga K (nm c)) (nm f) ∧ fs.length < 1000 ∧ Ext io H io (upd H a (.ins (He.ga K (nm c)) dx (putF (nm f) y fs))) ∧ StOk K (upd H a (.ins (He.ga K (nm c)) dx (putF (nm f) y fs))) io st' := by
  unfold putFldD at e
  split at e
  · rename_i n
    obtain ⟨a, ea, rfl⟩ := r
    split at e
    · rename_i c fs vs hq
      split at e
      · rename_i hb
        cases e
        obtain ⟨h1, h2, h3⟩ := hF.ok c f hb.1
        obtain ⟨hl, dx, xs, eH, len, rl⟩ := so.ob n a _ ea hq
        obtain ⟨b, ys, e1, l1, r1⟩ := putN_at h1 rw_ hl len rl
        have n2 : ∀ g u, H a ≠ some (.frz g u) := fun g u z => by rw [eH] at z; cases z
        have X := Ext.write so (Io.get_mem ea) (.ins (He.ga K (nm c)) dx (putF (nm f) y ((fs.map nm).zip xs))) n2
        refine ⟨a, c, dx, _, by simp only [clsD, hq], rfl, eH, h2, h3, ?_, X, so.write ea n2 ⟨b, dx, ys, by rw [upd_same, e1], l1, RepL.ext X _ _ r1⟩⟩
        rw [List.length_zip, List.length_map]
        have := hb.2
        omega
      · cases e
    · cases e
  · cases e
end
/-- o.m, o an object of an own class: the def's number -/
def recvD (M : Nat → Nat → Bool) (m : Nat) (x : D) (st : Sto) : Option Nat := match x with
  | .loc n => (match st[n]? with
    | some (.ins c fs vs) => if M c m = true ∧ (lookN fs vs m).isNone = true then some (c * 10000 + m) else none
    | _ => none)
  | _ => none
theorem recvD_at {M : Nat → Nat → Bool} {m key : Nat} {x : D} {st : Sto} {K : PySem.W.Frag} {H : Hp} {io : Io} {v : V} (hm : m < 1104) (e : recvD M m x st = some key) (so : StOk K H io st) (r : Rep K H io x v) :
    ∃ c a dx gs, M c m = true ∧ key = c * 10000 + m ∧ v = .ref a ∧ H a = some (.ins (He.ga K (nm c)) dx gs) ∧ gs.lookup (nm m) = none := by
  unfold recvD at e
  split at e
  · rename_i n
    split at e
    · rename_i c fs vs hq
      split at e
      · rename_i hc
        cases e
        obtain ⟨a, ea, rfl⟩ := r
        obtain ⟨hl, dx, xs, eH, len, rl⟩ := so.ob n a _ ea hq
        exact ⟨c, a, dx, _, hc.1, rfl, rfl, eH, lookN_no hm hl len rl (Option.isNone_iff_eq_none.mp hc.2)⟩
      · cases e
    · cases e
  · cases e

/-! ### methods of built-in types -/
def isStrD : D → Bool
  | .str _ => true
  | _ => false
def isLocL (x : D) (st : Sto) : Bool := match x with
  | .loc n => (match st[n]? with
    | some (.lst _) => true
    | _ => false)
  | _ => false
def sOf (s : List Nat) : Str := ⟨s.toArray⟩
def nOf (s : Str) : List Nat := s.cps.toList
def strsOf : List D → Option (List Str)
  | [] => some []
  | .str s :: ds => (strsOf ds).map (sOf s :: ·)
  | _ :: _ => none
def strD (s : Str) : D := .str (nOf s)
def splitD (x : D) (ds : List D) (st : Sto) : R D := match x, ds with
  | .str a, [.str b] => if b.length ≠ 0 ∧ a.length + 2 ≤ sz then .ok (.lst ((Txt.split (sOf a) (sOf b)).map strD)) st else .bad
  | _, _ => .bad
def lstripD (x : D) (ds : List D) (st : Sto) : R D := match x, ds with
  | .str a, [.str b] => if a.length ≤ sz then .ok (strD (Txt.lstripChars (sOf a) (sOf b))) st else .bad
  | _, _ => .bad
def joinD (x : D) (ds : List D) (st : Sto) : R D := match x, ds with
  | .str a, [d] => (match itemsOf d st with
    | some es => (match strsOf es with
      | some ys => if (ys.map (·.length)).sum + ys.length * a.length ≤ 16777216 then .ok (strD (Txt.join (sOf a) ys)) st else .bad
      | none => .bad)
    | none => .bad)
  | _, _ => .bad
def appendD (x : D) (ds : List D) (st : Sto) : R D := match x, ds with
  | .loc n, [d] => (match st[n]? with
    | some (.lst xs) => if xs.length < sz then .ok .non (st.set n (.lst (xs ++ [d]))) else .bad
    | _ => .bad)
  | _, _ => .bad
def listOf (d : D) (st : Sto) : Option (List D) := match d with
  | .lst ds => some ds
  | .loc n => (match st[n]? with
    | some (.lst ds) => some ds
    | _ => none)
  | _ => none
def extendD (x : D) (ds : List D) (st : Sto) : R D := match x, ds with
  | .loc n, [d] => (match st[n]?, listOf d st with
    | some (.lst xs), some ys => if xs.length + ys.length ≤ sz then .ok .non (st.set n (.lst (xs ++ ys))) else .bad
    | _, _ => .bad)
  | _, _ => .bad
def popD (x : D) (ds : List D) (st : Sto) : R D := match x, ds with
  | .loc n, [.int i] => (match st[n]? with
    | some (.lst xs) => if -(2 ^ 63) ≤ i ∧ i < 2 ^ 63 then (match seqIndex? i xs.length with
      | some k => (match xs[k]? with
        | some y => .ok y (st.set n (.lst (xs.eraseIdx k)))
        | none => .bad)
      | none => .bad) else .bad
    | _ => .bad)
  | _, _ => .bad
def getMD (x : D) (ds : List D) (st : Sto) : R D := match dictOf x st, ds with
  | some (ks, vs), [y] => (match keyD y with
    | some k => .ok ((valD ks vs k).getD .non) st
    | none => .bad)
  | some (ks, vs), [y, z] => (match keyD y with
    | some k => .ok ((valD ks vs k).getD z) st
    | none => .bad)
  | _, _ => .bad
/-! ### dicts whose keys are tuples -/
def keysOf : List D → Option (List KeyD)
  | [] => some []
  | d :: ds => (match keyD d, keysOf ds with
    | some k, some ks => some (k :: ks)
    | _, _ => none)
def keyT (d : D) : Option (List KeyD) := match d with
  | .tup ds => keysOf ds
  | _ => none
def valX {α : Type} [DecidableEq α] (ks : List α) (vs : List D) (k : α) : Option D := match ks, vs with
  | a :: ks, v :: vs => if a = k then some v else valX ks vs k
  | _, _ => none
def getTD (x y : D) (st : Sto) : R D := match x, keyT y with
  | .dtu ks vs, some k => (match valX ks vs k with
    | some d => .ok d st
    | none => .bad)
  | _, _ => .bad
def inTD (x y : D) (st : Sto) : R D := match y, keyT x with
  | .dtu ks _, some k => .ok (.bl (ks.any fun j => decide (j = k))) st
  | _, _ => .bad
def notInTD (x y : D) (st : Sto) : R D := match y, keyT x with
  | .dtu ks _, some k => .ok (.bl (!(ks.any fun j => decide (j = k)))) st
  | _, _ => .bad
def lenTD (ds : List D) (st : Sto) : R D := match ds with
  | [.dtu ks _] => .ok (.int ks.length) st
  | _ => .bad
/-- xs != [], xs a list of the store, too -/
def neNilD (x y : D) (st : Sto) : R D := match listOf x st, y with
  | some xs, .lst [] => .ok (.bl (!xs.isEmpty)) st
  | _, _ => .bad
/-- xs + ys: a new list of the store -/
def addLD (x y : D) (st : Sto) : R D := match listOf x st, listOf y st with
  | some xs, some ys => if xs.length + ys.length ≤ sz then .ok (.loc st.length) (st ++ [.lst (xs ++ ys)]) else .bad
  | _, _ => .bad
end Mi

set_option maxRecDepth 100000
set_option maxHeartbeats 4000000
/-! the methods of built-in types are right -/
namespace Mi
open PySem PySem.Spec L2
section
variable {K : PySem.W.Frag} {H : Hp} {io : Io} {st : Sto}
theorem strD_rep (s : Str) : Rep K H io (strD s) (.str s) := by
  show V.str s = V.str ⟨(nOf s).toArray⟩
  unfold nOf
  rw [str_back]
theorem strsD_rep : ∀ ys : List Str, RepL K H io (ys.map strD) (ys.map V.str)
  | [] => rfl
  | y :: ys => .cons (strD_rep y) (strsD_rep ys)
theorem strsOf_at : ∀ {ds : List D} {ys : List Str} {xs : List V}, strsOf ds = some ys → RepL K H io ds xs → xs = ys.map V.str
  | [], _, _, h, r => by cases h; cases r; rfl
  | .str s :: ds, ys, _, h, r => by
    obtain ⟨y, zs, rfl, r1, r2⟩ := r
    unfold strsOf at h
    cases q : strsOf ds with
    | none => rw [q] at h; cases h
    | some cs =>
      rw [q] at h
      cases h
      cases r1
      rw [strsOf_at q r2]; rfl
  | .non :: _, _, _, h, _ | .bl _ :: _, _, _, h, _ | .int _ :: _, _, _, h, _ | .tup _ :: _, _, _, h, _ | .lst _ :: _, _, _, h, _ | .fro _ :: _, _, _, h, _ | .dct _ _ :: _, _, _, h, _ | .dtu _ _ :: _, _, _, h, _ | .loc _ :: _, _, _, h, _ | .glo _ :: _, _, _, h, _ | .ty _ :: _, _, _, h, _ | .tuq _ :: _, _, _, h, _ | .xcp _ _ _ :: _, _, _, h, _ => by simp [strsOf] at h
theorem listOf_at {d : D} {v : V} {ds : List D} (e : listOf d st = some ds) (so : StOk K H io st) (r : Rep K H io d v) : ∃ a xs, v = .ref a ∧ H a = some (.lst xs) ∧ RepL K H io ds xs := by
  unfold listOf at e
  split at e
  · cases e
    obtain ⟨a, xs, rfl, p, r⟩ := r
    exact ⟨a, xs, rfl, p.1, r⟩
  · rename_i n
    obtain ⟨a, ea, rfl⟩ := r
    split at e
    · rename_i ds' hq
      cases e
      obtain ⟨xs, e1, r1⟩ := so.ob n a _ ea hq
      exact ⟨a, xs, rfl, e1, r1⟩
    · cases e
  · cases e
theorem valD_no : ∀ {ks : List KeyD} {vs : List D} {xs : List V} {k : KeyD}, RepL K H io vs xs → ks.length = xs.length → valD ks vs k = none → valV ((ks.map keyOf).zip xs) (keyOf k) = none
  | [], _, _, _, _, _, _ => rfl
  | a :: ks, [], _, _, r, l, _ => by cases r; simp at l
  | a :: ks, v :: vs, _, k, r, l, e => by
    obtain ⟨x, xr, rfl, h1, h2⟩ := r
    unfold valD at e
    by_cases h : a = k
    · rw [if_pos h] at e; cases e
    · rw [if_neg h] at e
      rw [List.map_cons, List.zip_cons_cons, valV_neg (fun z => h (keyOf_inj z))]
      exact valD_no h2 (by simpa using l) e
end
section
variable {X : Cx}
theorem split_s : MtR X "str.split" (rM X.K splitD) := by
  intro pins s σ H x xs v us Q I rx rxs h
  obtain ⟨d, ds, st, io, so, rd, rl, p⟩ := h
  unfold splitD at p
  split at p
  · rename_i a b
    obtain ⟨y, rfl, ry⟩ := rl.one
    cases rd; cases ry
    obtain ⟨⟨h1, h2⟩, p⟩ := Post.ite p
    refine mt_split pins s σ H _ _ v us Q I rx rxs ⟨_, _, rfl, rfl, ?_, ?_, fun q n => p.newL so (strsD_rep _) q n⟩
    · rw [str_len]; simpa using h1
    · rw [str_len, ← sz_eq]; exact h2
  · exact p.elim
theorem lstrip_s : MtR X "str.lstrip" (rM X.K lstripD) := by
  intro pins s σ H x xs v us Q I rx rxs h
  obtain ⟨d, ds, st, io, so, rd, rl, p⟩ := h
  unfold lstripD at p
  split at p
  · rename_i a b
    obtain ⟨y, rfl, ry⟩ := rl.one
    cases rd; cases ry
    obtain ⟨h1, p⟩ := Post.ite p
    exact mt_lstripChars pins s σ H _ _ v us Q I rx rxs ⟨_, _, rfl, rfl, by rw [str_len, ← sz_eq]; exact h1, p.val so (strD_rep _)⟩
  · exact p.elim
theorem join_s : MtR X "str.join" (rM X.K joinD) := by
  intro pins s σ H x xs v us Q I rx rxs h
  obtain ⟨d, ds, st, io, so, rd, rl, p⟩ := h
  unfold joinD at p
  split at p
  · rename_i a e
    obtain ⟨y, rfl, ry⟩ := rl.one
    cases rd
    cases q1 : itemsOf e st with
    | none => simp only [q1] at p; exact p.elim
    | some es =>
      cases q2 : strsOf es with
      | none => simp only [q1, q2] at p; exact p.elim
      | some ys =>
        simp only [q1, q2] at p
        obtain ⟨hz, p⟩ := Post.ite p
        obtain ⟨b, zs, rfl, rz, hs⟩ := itemsOf_at q1 so ry
        have ez := strsOf_at q2 rz
        subst ez
        exact mt_join pins s σ H _ _ v us Q I rx rxs ⟨_, b, ys, rfl, rfl, hs, by rw [str_len]; exact hz, p.val so (strD_rep _)⟩
  · exact p.elim
theorem append_s : MtR X "list.append" (rM X.K appendD) := by
  intro pins s σ H x xs v us Q I rx rxs h
  obtain ⟨d, ds, st, io, so, rd, rl, p⟩ := h
  unfold appendD at p
  split at p
  · rename_i n e
    obtain ⟨y, rfl, ry⟩ := rl.one
    obtain ⟨a, ea, rfl⟩ := rd
    split at p
    · rename_i zs hq
      obtain ⟨hz, p⟩ := Post.ite p
      obtain ⟨xs, e1, r1⟩ := so.ob n a _ ea hq
      have n2 : ∀ f u, H a ≠ some (.frz f u) := fun f u z => by rw [e1] at z; cases z
      have xx := Ext.write so (Io.get_mem ea) (HO.lst (xs ++ [y])) n2
      exact mt_append pins s σ H _ _ v us Q I rx rxs ⟨a, xs, y, rfl, rfl, e1, by rw [← sz_eq, ← r1.len]; exact hz,
        p _ io _ xx (so.write ea n2 ⟨_, upd_same, RepL.ext xx _ _ (r1.append (.cons ry .nil))⟩) rfl⟩
    · exact p.elim
  · exact p.elim
theorem extend_s : MtR X "list.extend" (rM X.K extendD) := by
  intro pins s σ H x xs v us Q I rx rxs h
  obtain ⟨d, ds, st, io, so, rd, rl, p⟩ := h
  unfold extendD at p
  split at p
  · rename_i n e
    obtain ⟨y, rfl, ry⟩ := rl.one
    obtain ⟨a, ea, rfl⟩ := rd
    split at p
    · rename_i zs ys hq hl
      obtain ⟨hz, p⟩ := Post.ite p
      obtain ⟨xs, e1, r1⟩ := so.ob n a _ ea hq
      obtain ⟨b, ws, rfl, e2, r2⟩ := listOf_at hl so ry
      have n2 : ∀ f u, H a ≠ some (.frz f u) := fun f u z => by rw [e1] at z; cases z
      have xx := Ext.write so (Io.get_mem ea) (HO.lst (xs ++ ws)) n2
      exact mt_extend pins s σ H _ _ v us Q I rx rxs ⟨a, b, xs, ws, rfl, rfl, e1, e2, by rw [← sz_eq, ← r1.len, ← r2.len]; exact hz,
        p _ io _ xx (so.write ea n2 ⟨_, upd_same, RepL.ext xx _ _ (r1.append r2)⟩) rfl⟩
    · exact p.elim
  · exact p.elim
theorem RepL.erase {K : PySem.W.Frag} {H : Hp} {io : Io} : ∀ {ds : List D} {xs : List V} (n : Nat), RepL K H io ds xs → RepL K H io (ds.eraseIdx n) (xs.eraseIdx n)
  | [], _, _, h => by cases h; rfl
  | _ :: _, _, 0, h => by
    obtain ⟨y, r, rfl, h1, h2⟩ := h
    exact h2
  | _ :: _, _, n + 1, h => by
    obtain ⟨y, r, rfl, h1, h2⟩ := h
    exact .cons h1 (RepL.erase n h2)
theorem pop_s : MtR X "list.pop" (rM X.K popD) := by
  intro pins s σ H x xs v us Q I rx rxs h
  obtain ⟨d, ds, st, io, so, rd, rl, p⟩ := h
  unfold popD at p
  split at p
  · rename_i n i
    obtain ⟨y, rfl, ry⟩ := rl.one
    cases ry
    obtain ⟨a, ea, rfl⟩ := rd
    split at p
    · rename_i zs hq
      obtain ⟨hz, p⟩ := Post.ite p
      obtain ⟨xs, e1, r1⟩ := so.ob n a _ ea hq
      cases q1 : seqIndex? i zs.length with
      | none => simp only [q1] at p; exact p.elim
      | some k =>
        cases q2 : zs[k]? with
        | none => simp only [q1, q2] at p; exact p.elim
        | some d =>
          simp only [q1, q2] at p
          obtain ⟨w, e2, rw2⟩ := r1.at q2
          have n2 : ∀ f u, H a ≠ some (.frz f u) := fun f u z => by rw [e1] at z; cases z
          have xx := Ext.write so (Io.get_mem ea) (HO.lst (xs.eraseIdx k)) n2
          exact mt_popAt pins s σ H _ _ v us Q I rx rxs ⟨a, xs, i, k, w, rfl, rfl, e1, hz.1, hz.2, by rw [← r1.len]; exact q1, e2,
            p _ io _ xx (so.write ea n2 ⟨_, upd_same, RepL.ext xx _ _ (r1.erase k)⟩) (Rep.ext xx _ _ rw2)⟩
    · exact p.elim
  · exact p.elim
theorem get_s (hu : X.A.units + 64 < cLine) : MtR X "dict.get" (rM X.K getMD) := by
  intro pins s σ H x xs v us Q I rx rxs h
  obtain ⟨d, ds, st, io, so, rd, rl, p⟩ := h
  unfold getMD at p
  split at p
  · rename_i ks vs y hd
    obtain ⟨w, rfl, rw1⟩ := rl.one
    obtain ⟨u, rfl, ru⟩ := rxs.one
    cases hk : keyD y with
    | none => simp only [hk] at p; exact p.elim
    | some k =>
      simp only [hk] at p
      obtain ⟨a, zs, rfl, ha, hl, rz⟩ := dictOf_at hd so rd
      cases rx
      have ek := keyD_at hk rw1
      subst ek
      have g : DGet H a (kV (keyOf k)) (valV ((ks.map keyOf).zip zs) (keyOf k)) := .inl ⟨_, _, ha, rfl, rfl⟩
      refine d_get1 (by omega) I g ru fun w' s' I' rw' => ⟨_, H, I', rw', ?_⟩
      cases hv : valD ks vs k with
      | none =>
        rw [hv] at p
        rw [valD_no rz hl hv]
        exact p.val so rfl
      | some z =>
        rw [hv] at p
        obtain ⟨w2, e2, r2⟩ := valD_at rz hv
        rw [e2]
        exact p.val so r2
  · rename_i ks vs y z hd
    obtain ⟨w, w2, rfl, rw1, rw2⟩ := rl.two
    obtain ⟨u, u2, rfl, ru, ru2⟩ := rxs.two
    cases hk : keyD y with
    | none => simp only [hk] at p; exact p.elim
    | some k =>
      simp only [hk] at p
      obtain ⟨a, zs, rfl, ha, hl, rz⟩ := dictOf_at hd so rd
      cases rx
      have ek := keyD_at hk rw1
      subst ek
      have g : DGet H a (kV (keyOf k)) (valV ((ks.map keyOf).zip zs) (keyOf k)) := .inl ⟨_, _, ha, rfl, rfl⟩
      refine d_get2 (by omega) I g ru ru2 fun w' s' I' rw' => ⟨_, H, I', rw', ?_⟩
      cases hv : valD ks vs k with
      | none =>
        rw [hv] at p
        rw [valD_no rz hl hv]
        exact p.val so rw2
      | some z =>
        rw [hv] at p
        obtain ⟨w2, e2, r2⟩ := valD_at rz hv
        rw [e2]
        exact p.val so r2
  · exact p.elim
end

/-! ### dicts whose keys are tuples -/
theorem keysOf_at {K : PySem.W.Frag} {H : Hp} {io : Io} : ∀ {ds : List D} {ks : List KeyD} {xs : List V}, keysOf ds = some ks → RepL K H io ds xs → xs = (ks.map keyOf).map kV
  | [], _, _, h, r => by cases h; cases r; rfl
  | d :: ds, ks, _, h, r => by
    obtain ⟨y, zs, rfl, r1, r2⟩ := r
    unfold keysOf at h
    cases e1 : keyD d with
    | none => rw [e1] at h; cases h
    | some k =>
      cases e2 : keysOf ds with
      | none => rw [e1, e2] at h; cases h
      | some ks' =>
        rw [e1, e2] at h
        cases h
        rw [keyD_at e1 r1, keysOf_at e2 r2]
        rfl
theorem keyT_at {K : PySem.W.Frag} {H : Hp} {io : Io} {d : D} {v : V} {k : List KeyD} (e : keyT d = some k) (r : Rep K H io d v) : ∃ b, v = .ref b ∧ H b = some (.tup ((k.map keyOf).map kV)) := by
  cases d <;> first | (cases e; done) | skip
  obtain ⟨a, xs, rfl, ha, rl⟩ := r
  rw [keysOf_at e rl] at ha
  exact ⟨a, rfl, ha⟩
theorem map_inj {α β : Type} {f : α → β} (h : ∀ a b, f a = f b → a = b) : ∀ {xs ys : List α}, xs.map f = ys.map f → xs = ys
  | [], [], _ => rfl
  | [], _ :: _, z => by cases z
  | _ :: _, [], z => by cases z
  | x :: xs, y :: ys, z => by
    rw [List.map_cons, List.map_cons, List.cons.injEq] at z
    rw [h _ _ z.1, map_inj h z.2]
theorem keysOf_inj {a b : List KeyD} (h : a.map keyOf = b.map keyOf) : a = b := map_inj (fun _ _ => keyOf_inj) h
theorem valX_at {α β : Type} [DecidableEq α] [DecidableEq β] {f : α → β} (inj : ∀ a b, f a = f b → a = b) {K : PySem.W.Frag} {H : Hp} {io : Io} : ∀ {ks : List α} {vs : List D} {xs : List V} {k : α} {d : D}, RepL K H io vs xs → valX ks vs k = some d → ∃ v, valV ((ks.map f).zip xs) (f k) = some v ∧ Rep K H io d v
  | [], _, _, _, _, _, e => by simp [valX] at e
  | _ :: _, [], _, _, _, _, e => by simp [valX] at e
  | a :: ks, v :: vs, xs, k, d, r, e => by
    obtain ⟨x, xr, rfl, h1, h2⟩ := r
    unfold valX at e
    by_cases h : a = k
    · rw [if_pos h] at e; cases e
      exact ⟨x, valV_pos (by simp [h]), h1⟩
    · rw [if_neg h] at e
      obtain ⟨v', g1, g2⟩ := valX_at inj (k := k) h2 e
      exact ⟨v', by rw [List.map_cons, List.zip_cons_cons, valV_neg (fun z => h (inj _ _ z))]; exact g1, g2⟩
theorem hasX {α β : Type} [DecidableEq α] [DecidableEq β] {f : α → β} (inj : ∀ a b, f a = f b → a = b) {ks : List α} {xs : List V} (l : ks.length = xs.length) (k : α) : (valV ((ks.map f).zip xs) (f k)).isSome = ks.any fun j => decide (j = k) := by
  rw [← valV_any]
  induction ks generalizing xs with
  | nil => rfl
  | cons a r ih =>
    cases xs with
    | nil => cases l
    | cons x xs =>
      have e : decide (f a = f k) = decide (a = k) := decide_eq_decide.mpr ⟨inj _ _, fun z => by rw [z]⟩
      have i2 := ih (xs := xs) (by simpa using l)
      simp only [List.map_cons, List.zip_cons_cons, List.any_cons, e, i2]
section
variable {X : Cx}
theorem inT_s (hu : X.A.units + 64 < cLine) : OpR X (compareOp .In) (r2 X.K inTD) := by
  intro pins s σ H x y v u Q I rx ry h
  obtain ⟨d, e, st, io, so, rd, re, p⟩ := h
  cases e <;> first | (exact p.elim) | skip
  rename_i ks vs
  unfold inTD at p
  cases hk : keyT d with
  | none => rw [hk] at p; exact p.elim
  | some k =>
    rw [hk] at p
    obtain ⟨a, xs, rfl, ⟨o, ha, _⟩, hl, rl⟩ := re
    obtain ⟨b, rfl, hb⟩ := keyT_at hk rd
    cases ry
    have g : DGet H a (.ref b) (valV ((ks.map (List.map keyOf)).zip xs) (k.map keyOf)) := .inr ⟨_, _, b, .inr ⟨o, ha⟩, rfl, hb, rfl⟩
    refine d_in (o := valV ((ks.map (List.map keyOf)).zip xs) (k.map keyOf)) (by omega) I g rx fun s' I' => ?_
    rw [hasX (f := List.map keyOf) (fun _ _ z => keysOf_inj z) hl k]
    exact ⟨V.bl (ks.any fun j => decide (j = k)), H, I', rfl, p.bl so⟩
theorem notInT_s (hu : X.A.units + 64 < cLine) : OpR X (compareOp .NotIn) (r2 X.K notInTD) := by
  intro pins s σ H x y v u Q I rx ry h
  obtain ⟨d, e, st, io, so, rd, re, p⟩ := h
  cases e <;> first | (exact p.elim) | skip
  rename_i ks vs
  unfold notInTD at p
  cases hk : keyT d with
  | none => rw [hk] at p; exact p.elim
  | some k =>
    rw [hk] at p
    obtain ⟨a, xs, rfl, ⟨o, ha, _⟩, hl, rl⟩ := re
    obtain ⟨b, rfl, hb⟩ := keyT_at hk rd
    cases ry
    have g : DGet H a (.ref b) (valV ((ks.map (List.map keyOf)).zip xs) (k.map keyOf)) := .inr ⟨_, _, b, .inr ⟨o, ha⟩, rfl, hb, rfl⟩
    refine d_notIn (o := valV ((ks.map (List.map keyOf)).zip xs) (k.map keyOf)) (by omega) I g rx fun s' I' => ?_
    rw [hasX (f := List.map keyOf) (fun _ _ z => keysOf_inj z) hl k]
    exact ⟨V.bl (!(ks.any fun j => decide (j = k))), H, I', rfl, p.bl so⟩
theorem lenT_s : CallR X (.builtin "len") (rN X.K lenTD) := by
  intro pins s σ H xs us Q I r h
  obtain ⟨ds, st, io, so, rl, p⟩ := h
  unfold lenTD at p
  split at p
  · rename_i ks vs
    obtain ⟨v, rfl, rd⟩ := rl.one
    obtain ⟨a, xs, rfl, ⟨o, ha, _⟩, hl, rl⟩ := rd
    obtain ⟨u, rfl, rx⟩ := Vals.one r
    obtain rfl : u = .ref a := rx
    obtain ⟨z, hd, ys, rel, dd⟩ := dt_rd I.hok (.inr ⟨o, ha⟩)
    have e := Paired.length rel
    refine call_len_dictH hd dd (by rw [← e]; rw [sizeLine_eq] at z; omega) ?_
    rw [← e]
    refine ⟨.int _, H, I.tok _, ⟨_, rfl⟩, ?_⟩
    rw [List.length_zip, List.length_map, ← hl, Nat.min_self]
    exact p.int so
  · exact p.elim
end

section
variable {X : Cx}
theorem addL_s : OpR X (binaryOp .Add) (r2 X.K addLD) := by
  intro pins s σ H x y v u Q I rx ry h
  obtain ⟨d, e, st, io, so, rd, re, p⟩ := h
  unfold addLD at p
  split at p
  · rename_i xs ys h1 h2
    obtain ⟨hz, p⟩ := Post.ite p
    obtain ⟨a, zs, rfl, ha, ra⟩ := listOf_at h1 so rd
    obtain ⟨b, ws, rfl, hb, rb⟩ := listOf_at h2 so re
    rw [ra.len, rb.len, sz_eq] at hz
    exact op_cat pins s σ H _ _ v u Q I rx ry ⟨a, b, zs, ws, rfl, rfl, ha, hb, hz, fun z n => p.pushL so (ra.append rb) z n⟩
  · exact p.elim
open SeqAt in
theorem neNil_s (hu : X.A.units + 64 < cLine) : OpR X (compareOp .NotEq) (r2 X.K neNilD) := by
  intro pins s σ H x y v u Q I rx ry h
  obtain ⟨d, e, st, io, so, rd, re, p⟩ := h
  unfold neNilD at p
  split at p
  · rename_i xs h1
    obtain ⟨a, zs, rfl, ha, ra⟩ := listOf_at h1 so rd
    obtain ⟨b, ws, rfl, hb, rb⟩ := re
    cases rb
    cases rx; cases ry
    obtain ⟨its, v1, ⟨o, k, g1, g2, _, g3⟩, _⟩ := I.list (.of ha)
    obtain ⟨its2, v2, ⟨o', k', g1', g2', _, g3'⟩, _⟩ := I.list (.of hb.1)
    have t1 : s.heap.IsList a its.toArray := ⟨o, g1, g2, k, g3⟩
    have t2 : s.heap.IsList b its2.toArray := ⟨o', g1', g2', k', g3'⟩
    have e2 := v2.zero
    subst e2
    have l1 := ra.len
    have m1 := v1.length
    have hb : (!xs.isEmpty) = !(its.isEmpty) := by
      cases xs <;> cases its <;> simp_all
    rw [hb] at p
    cases its with
    | nil =>
      refine (RcNeAt.lists (e := fun _ => true) t1 t2 rfl (by omega) (fun j h1 h2 => ?_)) _ _ _ _ ⟨.bl false, H, I, rfl, p.bl so⟩
      simp at h1
    | cons z zs2 => exact (RcNeAt.lists_lengths t1 t2 (by simp) (by omega)) _ _ _ _ ⟨.bl true, H, I, rfl, p.bl so⟩
  · exact p.elim
end
end Mi

set_option maxRecDepth 100000
set_option maxHeartbeats 4000000
/-! t < u of tuples of texts -/
namespace Mi
open PySem PySem.Spec PyProof.Rows L2
def lexS : List (List Nat) → List (List Nat) → Bool
  | [], [] => false
  | [], _ :: _ => true
  | _ :: _, [] => false
  | a :: as, b :: bs => if a = b then lexS as bs else decide (a < b)
theorem lexS_cons (a b : List Nat) (as bs : List (List Nat)) : lexS (a :: as) (b :: bs) = if a = b then lexS as bs else decide (a < b) := rfl
/-- these values are these texts -/
inductive TxAre : List Value → List (List Nat) → Prop
  | nil : TxAre [] []
  | cons (a : List Nat) (t : Tok) {vs : List Value} {as : List (List Nat)} : TxAre vs as → TxAre (.str ⟨a.toArray⟩ t :: vs) (a :: as)
theorem TxAre.len {vs : List Value} {as : List (List Nat)} (h : TxAre vs as) : vs.length = as.length := by
  induction h with
  | nil => rfl
  | cons a t _ ih => rw [List.length_cons, List.length_cons, ih]
theorem TxAre.of : ∀ {as : List (List Nat)} {vs : List Value}, Vals (as.map fun a => V.str ⟨a.toArray⟩) vs → TxAre vs as
  | [], _, .nil => .nil
  | a :: as, _, .cons r t => by
    obtain ⟨k, rfl⟩ := r
    exact .cons a k (TxAre.of t)
section
open PySem.SeqAt
open PySem.AutoSeq1 (wpAny_loadPart')
open PySem.MeetsSeq PySem.MeetsSeq2 PySem.MeetsSeq3
theorem str_eq_iff (a b : List Nat) : ((⟨a.toArray⟩ : Str) == ⟨b.toArray⟩) = decide (a = b) := by
  rw [Bool.eq_iff_iff, beq_iff_eq, decide_eq_true_eq]
  exact ⟨fun z => by simpa using congrArg (fun q : Str => q.cps.toList) z, fun z => by rw [z]⟩
theorem ltTexts (p q : Addr) (us ws : Array Value) (n m : Nat) (dp dq : Option Addr) (sp sq : Array (Option Value)) (as bs : List (List Nat)) (hu : TxAre us.toList as) (hw : TxAre ws.toList bs) :
    Meets (Builtin.«tuple.__lt__» ⟨[.ref p, .ref q], []⟩)
      (fun _ R s => s.heap.get? p = some { cls := .type "tuple", dict := dp, data := .seq us n, slots := sp } ∧ s.heap.get? q = some { cls := .type "tuple", dict := dq, data := .seq ws m, slots := sq } ∧
        R (.ok (.ret (.bool (lexS as bs)))) s) :=
  .of_wp fun prog w A R s h => by
    obtain ⟨hp, g, d, tk, os⟩ := s; obtain ⟨hl, hb, h⟩ := h
    have f2 := AutoSeq1.sub_tuple_tuple
    have z1 : us.size = as.length := by rw [← hu.len]; simp
    have z2 : ws.size = bs.length := by rw [← hw.len]; simp
    wp_walk using wpAny_loadPart' hl, wpAny_loadPart' hb, wpAny_forIn_list _ (fun rest b s' => b.1 = none ∧ s' = ⟨hp, g, d, tk, os⟩ ∧ ∃ (xs ys : List Value) (as' bs' : List (List Nat)), rest = xs.zip ys ∧
      TxAre xs as' ∧ TxAre ys bs' ∧ as'.length + ws.size = bs'.length + us.size ∧ R (.ok (.ret (.bool (lexS as' bs')))) ⟨hp, g, d, tk, os⟩) _
    case turn =>
      rintro ⟨y, x⟩ rest b s' ⟨hb', rfl, xs, ys, as', bs', hz, hx, hy, hlen, hR⟩
      cases hx with
      | nil => rw [List.zip_nil_left] at hz; cases hz
      | cons a t hx' =>
        cases hy with
        | nil => rw [List.zip_nil_right] at hz; cases hz
        | cons c u hy' =>
          rw [List.zip_cons_cons] at hz
          injection hz with hyx hrest
          injection hyx with h1 h2
          subst h1 h2
          rw [lexS_cons] at hR
          simp only [List.length_cons] at hlen
          have he := SeqAt.EqAt.str_str (A := A.in1) (s := ⟨hp, g, d, tk, os⟩) ⟨a.toArray⟩ t ⟨c.toArray⟩ u
          rw [str_eq_iff] at he
          refine wpAny_bind (he prog w _ _ ?_)
          by_cases e : a = c
          · rw [if_pos e] at hR
            rw [decide_eq_true e]
            wp_walk
            exact ⟨rfl, rfl, _, _, _, _, hrest, hx', hy', by omega, hR⟩
          · rw [if_neg e] at hR
            rw [decide_eq_false e]
            have hri := DT.rcLt_str A.in1 ⟨hp, g, d, tk, os⟩ ⟨a.toArray⟩ t ⟨c.toArray⟩ u prog w
            wp_walk using hri
            exact ⟨_, rfl, by simpa using hR⟩
    case fin =>
      rintro ⟨b1, b2⟩ s' ⟨hb', rfl, xs, ys, as', bs', hz, hx, hy, hlen, hR⟩
      simp only at hb'
      subst hb'
      have hv : lexS as' bs' = decide (us.size < ws.size) := by
        cases hx with
        | nil =>
          cases hy with
          | nil =>
            simp only [List.length_nil] at hlen
            exact (decide_eq_false (by omega)).symm
          | cons c u hy' =>
            simp only [List.length_nil, List.length_cons] at hlen
            exact (decide_eq_true (by omega)).symm
        | cons a t hx' =>
          cases hy with
          | nil =>
            simp only [List.length_nil, List.length_cons] at hlen
            exact (decide_eq_false (by omega)).symm
          | cons c u hy' =>
            rw [List.zip_cons_cons] at hz
            cases hz
      rw [hv] at hR
      wp_walk
      exact ⟨_, rfl, by simpa [Builtin.Tuple.tupleCompareSizes] using hR⟩
    case h =>
      exact ⟨rfl, rfl, us.toList, ws.toList, as, bs, rfl, hu, hw, by omega, h⟩
end
theorem lt_texts {prog : Program} {w : World} {A : Around} {E : Value → Shared → Prop} {s : Shared} {p q : Addr} {us ws : Array Value} {as bs : List (List Nat)} {Q : Value → Shared → Prop} (hp : IsTup s.heap p us) (hq : IsTup s.heap q ws) (hu : TxAre us.toList as) (hw : TxAre ws.toList bs)
    (hA : A.units < cLine) (h : Q (.bool (lexS as bs)) s) : wpAny (model prog w) A (compareOp .Lt (.ref p) (.ref q)) Q E s := by
  obtain ⟨⟨cls, dd, data, sl⟩, ho, hc, n, hd⟩ := id hp
  obtain ⟨⟨cls2, dd2, data2, sl2⟩, ho2, hc2, n2, hd2⟩ := id hq
  simp only at hc hd hc2 hd2
  subst hc hd hc2 hd2
  exact richCompare_meets_room (op := .Lt) ⟨_, ho, rfl⟩ ⟨_, ho2, rfl⟩ PySem.F.slot_tuple_lt PySem.F.entry_tuple_lt (PySem.F.args_tuple_lt_2 _ _) (ltTexts p q us ws n n2 dd dd2 sl sl2 as bs hu hw)
    ⟨ho, ho2, show Value.bool (lexS as bs) ≠ Value.notImplemented ∧ Q (.bool (lexS as bs)) s from ⟨(fun x => nomatch x), h⟩⟩ hA
def textsOf : List D → Option (List (List Nat))
  | [] => some []
  | .str s :: ds => (textsOf ds).map (s :: ·)
  | _ :: _ => none
theorem textsOf_at {K : PySem.W.Frag} {H : Hp} {io : Io} : ∀ {ds : List D} {as : List (List Nat)} {xs : List V}, textsOf ds = some as → RepL K H io ds xs → xs = as.map fun a => V.str ⟨a.toArray⟩
  | [], _, _, h, r => by cases h; cases r; rfl
  | .str s :: ds, as, _, h, r => by
    obtain ⟨y, zs, rfl, r1, r2⟩ := r
    unfold textsOf at h
    cases q : textsOf ds with
    | none => rw [q] at h; cases h
    | some cs =>
      rw [q] at h
      cases h
      cases r1
      rw [textsOf_at q r2]; rfl
  | .non :: _, _, _, h, _ | .bl _ :: _, _, _, h, _ | .int _ :: _, _, _, h, _ | .tup _ :: _, _, _, h, _ | .lst _ :: _, _, _, h, _ | .fro _ :: _, _, _, h, _ | .dct _ _ :: _, _, _, h, _ | .dtu _ _ :: _, _, _, h, _ | .loc _ :: _, _, _, h, _ | .glo _ :: _, _, _, h, _ | .ty _ :: _, _, _, h, _ | .tuq _ :: _, _, _, h, _ | .xcp _ _ _ :: _, _, _, h, _ => by simp [textsOf] at h
/-- t < u -/
def ltTD (x y : D) (st : Sto) : R D := match x, y with
  | .tup as, .tup bs => (match textsOf as, textsOf bs with
    | some a, some b => .ok (.bl (lexS a b)) st
    | _, _ => .bad)
  | _, _ => .bad
theorem ltT_s {X : Cx} (hu : X.A.units + 64 < cLine) : OpR X (compareOp .Lt) (r2 X.K ltTD) := by
  intro pins s σ H x y v u Q I rx ry h
  obtain ⟨d, e, st, io, so, rd, re, p⟩ := h
  unfold ltTD at p
  split at p
  · rename_i as bs
    obtain ⟨a, xs, rfl, ha, ra⟩ := rd
    obtain ⟨b, ys, rfl, hb, rb⟩ := re
    split at p
    · rename_i a' b' h1 h2
      cases rx; cases ry
      have e1 := textsOf_at h1 ra
      have e2 := textsOf_at h2 rb
      subst e1 e2
      obtain ⟨its, v1, t1, _⟩ := I.tuple (.of ha)
      obtain ⟨its2, v2, t2, _⟩ := I.tuple (.of hb)
      exact lt_texts t1 t2 (TxAre.of (by simpa using v1)) (TxAre.of (by simpa using v2)) (by omega) ⟨V.bl (lexS a' b'), H, I, rfl, p.bl so⟩
    · exact p.elim
  · exact p.elim
end Mi

set_option maxRecDepth 100000
set_option maxHeartbeats 4000000
/-! xs.index(y) -/
namespace Mi
open PySem PySem.Spec L2
def findEq (x : D) : List D → Nat → Option Nat
  | [], _ => none
  | d :: ds, j => match deq 39 d x with
    | some true => some j
    | some false => findEq x ds (j + 1)
    | none => none
theorem findEq_at {x : D} : ∀ {ds : List D} {k j : Nat}, findEq x ds k = some j → ∃ i d, j = k + i ∧ ds[i]? = some d ∧ deq 39 d x = some true ∧ ∀ m, m < i → ∃ d', ds[m]? = some d' ∧ deq 39 d' x = some false
  | [], _, _, h => by cases h
  | d :: ds, k, j, h => by
    unfold findEq at h
    cases e : deq 39 d x with
    | none => rw [e] at h; cases h
    | some b =>
      rw [e] at h
      cases b with
      | true => cases h; exact ⟨0, d, rfl, rfl, e, fun m hm => by omega⟩
      | false =>
        obtain ⟨i, d', h1, h2, h3, h4⟩ := findEq_at h
        refine ⟨i + 1, d', by omega, h2, h3, fun m hm => ?_⟩
        cases m with
        | zero => exact ⟨d, rfl, e⟩
        | succ m =>
          obtain ⟨d'', q1, q2⟩ := h4 m (by omega)
          exact ⟨d'', q1, q2⟩
def indexD (x : D) (ys : List D) (st : Sto) : R D := match listOf x st, ys with
  | some ds, [y] => (match inL y ds, findEq y ds 0 with
    | some _, some j => .ok (.int j) st
    | _, _ => .bad)
  | _, _ => .bad
section
variable {X : Cx}
theorem inL_each {pins : List (Addr × Obj)} {σ : St} {H : Hp} {s : Shared} {io : Io} (I : L2.Inv X pins σ H s) (hu : X.A.units + 64 < cLine) {x : D} {xv : V} {xu : Value} (r : Rep X.K H io x xv) (rx : RelV xv xu) {ds : List D} {xs : List V} {us : List Value} {b : Bool}
    (h : inL x ds = some b) (q : RepL X.K H io ds xs) (vs : Vals xs us) : ∃ e : Value → Bool, (∀ y ∈ us, SeqAt.EqAt X.A.in1 s y xu (e y)) ∧ ∀ (i : Nat) (d : D) (c : Bool) (u : Value), ds[i]? = some d → us[i]? = some u → deq 39 d x = some c → e u = c := by
  classical
  obtain ⟨h1, _⟩ := inL_iff h
  have at_ : ∀ y ∈ us, ∃ d w c, Rep X.K H io d w ∧ RelV w y ∧ deq 39 d x = some c := by
    intro y hy
    obtain ⟨i, hi, rfl⟩ := List.getElem_of_mem hy
    have hx : i < xs.length := by have := vs.length; omega
    obtain ⟨d, e1, w1⟩ := q.get (i := i) (v := xs[i]) (by simp [hx])
    obtain ⟨u', f1, y1⟩ := vs.get (i := i) (x := xs[i]) (by simp [hx])
    rw [List.getElem?_eq_getElem hi] at f1
    cases f1
    obtain ⟨c, hc⟩ := h1 d (List.mem_of_getElem? e1)
    exact ⟨d, _, c, w1, y1, hc⟩
  have key : ∀ y, ∀ d w c, Rep X.K H io d w → RelV w y → deq 39 d x = some c → (decide (∃ d' w', Rep X.K H io d' w' ∧ RelV w' y ∧ deq 39 d' x = some true)) = c := by
    intro y d w c g1 g2 g3
    cases c with
    | true => exact decide_eq_true ⟨d, w, g1, g2, g3⟩
    | false =>
      refine decide_eq_false ?_
      rintro ⟨d', w', k1, k2, k3⟩
      have z := RelV.inj g2 k2
      subst z
      have z2 := deq_rep I 39 d d' x false true w g3 k3 g1 k1
      cases z2
  refine ⟨fun y => decide (∃ d' w', Rep X.K H io d' w' ∧ RelV w' y ∧ deq 39 d' x = some true), fun y hy => ?_, fun i d c u hd hui hc => ?_⟩
  · obtain ⟨d, w, c, g1, g2, g3⟩ := at_ y hy
    show SeqAt.EqAt X.A.in1 s y xu (decide _)
    rw [key y d w c g1 g2 g3]
    exact (deq_ok I 39 d x c w xv y xu g3 g1 r g2 rx X.A.in1 (by show X.A.units + 1 + 39 < cLine; omega)).2.2
  · obtain ⟨w, e1, w1⟩ := q.at hd
    obtain ⟨u', f1, y1⟩ := vs.get e1
    rw [hui] at f1
    cases f1
    exact key u d w c w1 y1 hc
theorem index_s (hu : X.A.units + 64 < cLine) : MtR X "list.index" (rM X.K indexD) := by
  intro pins s σ H x xs v us Q I rx rxs h
  obtain ⟨d, ds, st, io, so, rd, rl, p⟩ := h
  unfold indexD at p
  split at p
  · rename_i zs y hl
    obtain ⟨w, rfl, rw1⟩ := rl.one
    obtain ⟨u, rfl, ru⟩ := rxs.one
    obtain ⟨a, vs, rfl, ha, rv⟩ := listOf_at hl so rd
    cases rx
    split at p
    · rename_i b j h1 h2
      obtain ⟨i, d', ej, hd, he, hno⟩ := findEq_at h2
      have ej' : j = i := by omega
      subst ej'
      obtain ⟨its, rvs, ⟨⟨cls, dd, data, sls⟩, n, ho, hc, hdn, hdt⟩, hlen⟩ := I.list (.of ha)
      simp only at hc hdt
      subst hc hdt
      obtain ⟨e, hE, hat⟩ := inL_each I hu rw1 ru h1 rv rvs
      have l1 := rv.len
      have l2 := rvs.length
      obtain ⟨hj, _⟩ := List.getElem?_eq_some_iff.mp hd
      have hji : j < its.length := by omega
      have at_ : ∀ (m : Nat) (hm : m < its.toArray.size), its[m]? = some its.toArray[m] := fun m hm => by
        have hml : m < its.length := by simpa using hm
        rw [List.getElem?_eq_getElem hml]
        simp
      have hsz := sizeLine_eq
      refine call_meets PySem.F.slot_list_index ⟨_, ho, rfl⟩ PySem.F.entry_list_index (PySem.F.args_list_index_2 _ _)
        (SeqAt.list_indexAt a its.toArray n dd sls u e j (by simpa using hji) (by omega) (hat j d' true _ hd (at_ j (by simpa using hji)) he) (fun m hm hmj => ?_)) ⟨ho, fun y hy => hE y (by simpa using hy), ?_⟩
      · obtain ⟨d'', q1, q2⟩ := hno m hmj
        exact hat m d'' false _ q1 (at_ m hm) q2
      · exact ⟨.int (j : Nat), H, I.tok _, ⟨_, rfl⟩, p.int so⟩
    · exact p.elim
  · exact p.elim
end
/-- s.index(t) -/
def sindexD (x : D) (ys : List D) (st : Sto) : R D := match x, ys with
  | .str a, [.str b] => (match Builtin.Str.occurrences (sOf a) (sOf b) 0 (sOf a).length 1 with
    | i :: _ => .ok (.int (i : Nat)) st
    | [] => .bad)
  | _, _ => .bad
theorem sindex_s {X : Cx} : MtR X "str.index" (rM X.K sindexD) := by
  intro pins s σ H x xs v us Q I rx rxs h
  obtain ⟨d, ds, st, io, so, rd, rl, p⟩ := h
  unfold sindexD at p
  split at p
  · rename_i a b
    obtain ⟨y, rfl, ry⟩ := rl.one
    cases rd; cases ry
    split at p
    · rename_i i rest he
      exact mt_sindex pins s σ H _ _ v us Q I rx rxs ⟨_, _, i, rest, rfl, rfl, he, p.int so⟩
    · exact p.elim
  · exact p.elim
end Mi

set_option maxRecDepth 100000
set_option maxHeartbeats 4000000
/-! d.update(e), sorted(d), dict(x): plain keys -/
namespace Mi
open PySem PySem.Spec PyProof.Rows L2
/-- d[k] = v -/
def putX {α : Type} [DecidableEq α] (ks : List α) (vs : List D) (k : α) (v : D) : List α × List D :=
  if (ks.any fun j => decide (j = k)) = true then (ks, (ks.zip vs).map fun p => if p.1 = k then v else p.2) else (ks ++ [k], vs ++ [v])
def putAll {α : Type} [DecidableEq α] : List α → List D → List α → List D → List α × List D
  | ks, vs, k :: r, v :: w => putAll (putX ks vs k v).1 (putX ks vs k v).2 r w
  | ks, vs, _, _ => (ks, vs)
section
variable {α β : Type} [DecidableEq α] [DecidableEq β] {f : α → β}
theorem any_inj (inj : ∀ a b, f a = f b → a = b) (k : α) : ∀ (ks : List α) (xs : List V), ks.length = xs.length → (((ks.map f).zip xs).any fun kv => decide (kv.1 = f k)) = ks.any fun j => decide (j = k)
  | [], _, _ => rfl
  | a :: ks, [], h => by cases h
  | a :: ks, x :: xs, h => by
    have e : decide (f a = f k) = decide (a = k) := decide_eq_decide.mpr ⟨inj _ _, fun z => by rw [z]⟩
    simp only [List.map_cons, List.zip_cons_cons, List.any_cons, e, any_inj inj k ks xs (by simpa using h)]
theorem map_inj2 (inj : ∀ a b, f a = f b → a = b) {K : PySem.W.Frag} {H : Hp} {io : Io} {z : D} {v : V} (rz : Rep K H io z v) (k : α) : ∀ (ks : List α) (vs : List D) (xs : List V), ks.length = xs.length → RepL K H io vs xs →
    ∃ ys, ((ks.map f).zip xs).map (fun kv => if kv.1 = f k then (kv.1, v) else kv) = (ks.map f).zip ys ∧ ks.length = ys.length ∧ RepL K H io ((ks.zip vs).map fun p => if p.1 = k then z else p.2) ys
  | [], _, xs, h, r => ⟨[], by simp, rfl, by simp [RepL]⟩
  | a :: ks, [], _, h, r => by cases r; cases h
  | a :: ks, d :: vs, _, h, r => by
    obtain ⟨x, xs, rfl, r1, r2⟩ := r
    obtain ⟨ys, e1, e2, e3⟩ := map_inj2 inj rz k ks vs xs (by simpa using h) r2
    by_cases hk : a = k
    · refine ⟨v :: ys, ?_, by simp [e2], ?_⟩
      · rw [List.map_cons, List.zip_cons_cons, List.map_cons, e1, List.zip_cons_cons, if_pos (by rw [hk])]
      · rw [List.zip_cons_cons, List.map_cons, if_pos hk]
        exact .cons rz e3
    · refine ⟨x :: ys, ?_, by simp [e2], ?_⟩
      · rw [List.map_cons, List.zip_cons_cons, List.map_cons, e1, List.zip_cons_cons, if_neg (fun q => hk (inj _ _ q))]
      · rw [List.zip_cons_cons, List.map_cons, if_neg hk]
        exact .cons r1 e3
theorem putX_inj (inj : ∀ a b, f a = f b → a = b) {K : PySem.W.Frag} {H : Hp} {io : Io} {z : D} {v : V} (rz : Rep K H io z v) (k : α) {ks : List α} {vs : List D} {xs : List V} (hl : ks.length = xs.length) (r : RepL K H io vs xs) :
    ∃ ys, putK ((ks.map f).zip xs) (f k) v = ((putX ks vs k z).1.map f).zip ys ∧ (putX ks vs k z).1.length = ys.length ∧ RepL K H io (putX ks vs k z).2 ys := by
  unfold putK putX
  rw [any_inj inj k ks xs hl]
  by_cases hany : (ks.any fun j => decide (j = k)) = true
  · rw [if_pos hany, if_pos hany]
    exact map_inj2 inj rz k ks vs xs hl r
  · rw [if_neg hany, if_neg hany]
    refine ⟨xs ++ [v], ?_, by simp [hl], r.append (.cons rz .nil)⟩
    rw [List.map_append, List.zip_append (by simpa using hl)]
    rfl
end
theorem putAll_at {K : PySem.W.Frag} {H : Hp} {io : Io} : ∀ {k2 : List KeyD} {v2 : List D} {x2 : List V} {ks : List KeyD} {vs : List D} {xs : List V}, ks.length = xs.length → RepL K H io vs xs → k2.length = x2.length → RepL K H io v2 x2 →
    ∃ ys, mergeK ((ks.map keyOf).zip xs) ((k2.map keyOf).zip x2) = ((putAll ks vs k2 v2).1.map keyOf).zip ys ∧ (putAll ks vs k2 v2).1.length = ys.length ∧ RepL K H io (putAll ks vs k2 v2).2 ys
  | [], v2, x2, ks, vs, xs, hl, r, _, _ => by
    refine ⟨xs, ?_, ?_, ?_⟩ <;> unfold putAll <;> first | rfl | exact hl | exact r
  | k :: k2, [], x2, ks, vs, xs, hl, r, h2, r2 => by cases r2; cases h2
  | k :: k2, v :: v2, x2, ks, vs, xs, hl, r, h2, r2 => by
    obtain ⟨x, xr, rfl, q1, q2⟩ := r2
    obtain ⟨ys, e1, e2, e3⟩ := putX_inj (f := keyOf) (fun _ _ => keyOf_inj) q1 k hl r
    obtain ⟨zs, g1, g2, g3⟩ := putAll_at e2 e3 (by simpa using h2) q2
    refine ⟨zs, ?_, g2, g3⟩
    rw [List.map_cons, List.zip_cons_cons]
    show mergeK (putK ((ks.map keyOf).zip xs) (keyOf k) x) _ = _
    rw [e1]
    exact g1
theorem zip_len {ks : List KeyD} {xs : List V} (h : ks.length = xs.length) : ((ks.map keyOf).zip xs).length = ks.length := by
  rw [List.length_zip, List.length_map, ← h, Nat.min_self]
def updateD (x : D) (ds : List D) (st : Sto) : R D := match x, ds with
  | .loc n, [.dct k2 v2] => (match st[n]? with
    | some (.dct ks vs) => if ks.length + k2.length ≤ sz then .ok .non (st.set n (.dct (putAll ks vs k2 v2).1 (putAll ks vs k2 v2).2)) else .bad
    | _ => .bad)
  | _, _ => .bad
section
variable {X : Cx}
theorem update_s : MtR X "dict.update" (rM X.K updateD) := by
  intro pins s σ H x xs v us Q I rx rxs h
  obtain ⟨d, ds, st, io, so, rd, rl, p⟩ := h
  unfold updateD at p
  split at p
  · rename_i n k2 v2
    obtain ⟨w, rfl, rw1⟩ := rl.one
    obtain ⟨u, rfl, ru⟩ := rxs.one
    split at p
    · rename_i ks ws hq
      obtain ⟨hz, p⟩ := Post.ite p
      obtain ⟨a, ea, rfl⟩ := rd
      obtain ⟨zs, e1, hl, rz⟩ := so.ob n a _ ea hq
      obtain ⟨b, ys, rfl, ⟨o, hb, nb⟩, hl2, rl2⟩ := rw1
      cases rx; cases ru
      obtain ⟨z1, s1, kv1, r1, d1⟩ := dk_of I.hok e1
      obtain ⟨z2, s2, kv2, r2, d2⟩ := dk_rd I.hok (.inr ⟨o, hb⟩)
      have ne : a ≠ b := fun z => by
        subst z
        rw [e1] at hb
        cases hb
      have m1 : kv1.length = ks.length := by rw [← r1.length, zip_len hl]
      have m2 : kv2.length = k2.length := by rw [← r2.length, zip_len hl2]
      obtain ⟨qs, g1, g2, g3⟩ := putAll_at hl rz hl2 rl2
      refine call_meetsIn PySem.F.slot_dict_update d1.typeIs PySem.F.entry_dict_update (PySem.F.args_dict_update_2 _ _) (meets_dict_update (mixKind X.prog X.w) a b ne s2) ⟨kv1, kv2, d1, d2, by rw [m1, m2, ← sz_eq]; exact hz, fun h' dd' _ hs => ?_⟩
      have n2 : ∀ f u, H a ≠ some (.frz f u) := fun f u z => by rw [e1] at z; cases z
      have hlen : (mergeK ((ks.map keyOf).zip zs) ((k2.map keyOf).zip ys)).length ≤ sizeLine := by
        refine Nat.le_trans (length_mergeK _ _) ?_
        rw [zip_len hl, zip_len hl2, ← sz_eq]
        exact hz
      have I2 : L2.Inv X pins σ (upd H a (.dK (mergeK ((ks.map keyOf).zip zs) ((k2.map keyOf).zip ys)))) { s with heap := h' } := by
        have he : ∃ q, h'.get? a = some q := let ⟨q, _, _, hq, _⟩ := dd'; ⟨q, hq⟩
        exact d_write (t' := s.toks) I (by rw [e1]; exact True.intro) hs he (dk_new hlen s1 (KV.merge r2 r1) dd')
      rw [g1] at I2
      have xx := Ext.write so (Io.get_mem ea) (HO.dK (((putAll ks ws k2 v2).1.map keyOf).zip qs)) n2
      exact ⟨.non, _, I2, rfl, p _ io _ xx (so.write ea n2 ⟨qs, upd_same, g2, RepL.ext xx _ _ g3⟩) rfl⟩
    · exact p.elim
  · exact p.elim
end
/-! ### sorted(d), the keys texts -/
def insS (x : List Nat) : List (List Nat) → List (List Nat)
  | [] => [x]
  | y :: ys => match ltCps y x with
    | true => y :: insS x ys
    | false => x :: y :: ys
def sortL : List (List Nat) → List (List Nat)
  | [] => []
  | x :: xs => insS x (sortL xs)
theorem ltCps_nil (a : List Nat) : ltCps a [] = false := by cases a <;> rfl
theorem ltCps_anti : ∀ a b : List Nat, ltCps a b = false → ltCps b a = false → a = b
  | [], [], _, _ => rfl
  | [], _ :: _, h, _ => by simp [ltCps] at h
  | _ :: _, [], _, h => by simp [ltCps] at h
  | x :: a, y :: b, h, g => by
    simp only [ltCps, Bool.or_eq_false_iff, decide_eq_false_iff_not, Bool.and_eq_false_iff] at h g
    have e : x = y := by omega
    subst e
    rw [ltCps_anti a b (by simpa using h.2) (by simpa using g.2)]
theorem ltCps_le : ∀ a b c : List Nat, ltCps b a = false → ltCps c b = false → ltCps c a = false
  | [], _, c, _, _ => ltCps_nil c
  | _ :: _, [], _, h, _ => by simp [ltCps] at h
  | _ :: _, _ :: _, [], _, h => by simp [ltCps] at h
  | x :: a, y :: b, z :: c, h, g => by
    simp only [ltCps, Bool.or_eq_false_iff, decide_eq_false_iff_not, Bool.and_eq_false_iff] at h g ⊢
    refine ⟨by omega, ?_⟩
    by_cases e : z = x
    · right
      have e1 : y = x := by omega
      have e2 : z = y := by omega
      exact ltCps_le a b c (by simpa [e1] using h.2) (by simpa [e2] using g.2)
    · left; simpa using e
theorem ltCps_tot : ∀ a b : List Nat, ltCps a b = true → ltCps b a = false
  | [], [], h => by simp [ltCps] at h
  | [], _ :: _, _ => by simp [ltCps]
  | _ :: _, [], h => by simp [ltCps] at h
  | x :: a, y :: b, h => by
    simp only [ltCps, Bool.or_eq_true, decide_eq_true_eq, Bool.and_eq_true] at h
    simp only [ltCps, Bool.or_eq_false_iff, decide_eq_false_iff_not, Bool.and_eq_false_iff]
    rcases h with h | h
    · refine ⟨by omega, .inl ?_⟩
      have : y ≠ x := by omega
      simpa using this
    · have e : x = y := by simpa using h.1
      exact ⟨by omega, .inr (ltCps_tot a b h.2)⟩
abbrev leL (a b : List Nat) : Prop := ltCps b a = false
theorem insS_perm (x : List Nat) : ∀ ys, (insS x ys).Perm (x :: ys)
  | [] => .refl _
  | y :: ys => by
    unfold insS
    split
    · exact ((insS_perm x ys).cons y).trans (.swap x y ys)
    · exact .refl _
theorem insS_sorted (x : List Nat) : ∀ ys, ys.Pairwise leL → (insS x ys).Pairwise leL
  | [], _ => by simp [insS]
  | y :: ys, h => by
    obtain ⟨h1, h2⟩ := List.pairwise_cons.mp h
    unfold insS
    split
    · rename_i e
      refine List.pairwise_cons.mpr ⟨fun z hz => ?_, insS_sorted x ys h2⟩
      rcases List.mem_cons.mp ((insS_perm x ys).mem_iff.mp hz) with rfl | hz
      · exact ltCps_tot _ _ e
      · exact h1 z hz
    · rename_i e
      refine List.pairwise_cons.mpr ⟨fun z hz => ?_, h⟩
      rcases List.mem_cons.mp hz with rfl | hz
      · exact e
      · exact ltCps_le _ _ _ e (h1 z hz)
theorem sortL_perm : ∀ xs, (sortL xs).Perm xs
  | [] => .refl _
  | x :: xs => (insS_perm x _).trans ((sortL_perm xs).cons x)
theorem sortL_sorted : ∀ xs, (sortL xs).Pairwise leL
  | [] => .nil
  | x :: xs => insS_sorted x _ (sortL_sorted xs)
theorem rising_pw : ∀ (p : Str) (l : List Str), risingS p l = true → (p :: l).Pairwise (fun a b => leL a.cps.toList b.cps.toList)
  | p, [], _ => by simp
  | p, x :: r, h => by
    have h' : (!ltCps x.cps.toList p.cps.toList && risingS x r) = true := h
    rw [Bool.and_eq_true, Bool.not_eq_true'] at h'
    have ih := rising_pw x r h'.2
    refine List.pairwise_cons.mpr ⟨fun z hz => ?_, ih⟩
    rcases List.mem_cons.mp hz with rfl | hz
    · exact h'.1
    · exact ltCps_le _ _ _ h'.1 ((List.pairwise_cons.mp ih).1 z hz)
theorem sorted_pw (l : List Str) (h : sortedS l = true) : l.Pairwise (fun a b => leL a.cps.toList b.cps.toList) := by
  cases l with
  | nil => exact .nil
  | cons x r => exact rising_pw x r h
theorem sorted_one {ys : List Str} {ss : List (List Nat)} (hp : ys.Perm (ss.map fun s => (⟨s.toArray⟩ : Str))) (hs : sortedS ys = true) : ys = (sortL ss).map fun s => (⟨s.toArray⟩ : Str) := by
  refine List.Perm.eq_of_pairwise (le := fun a b => leL a.cps.toList b.cps.toList) (fun a b _ _ h1 h2 => ?_) (sorted_pw _ hs) ?_ (hp.trans (((sortL_perm ss).map _).symm))
  · have := ltCps_anti _ _ h2 h1
    cases a; cases b
    congr 1
    exact Array.toList_inj.mp this
  · rw [List.pairwise_map]
    exact (sortL_sorted ss).imp fun {a b} h => by simpa using h
def strsK : List KeyD → Option (List (List Nat))
  | [] => some []
  | .inr s :: ks => (strsK ks).map (s :: ·)
  | .inl _ :: _ => none
theorem strsK_at : ∀ {ks : List KeyD} {ss : List (List Nat)}, strsK ks = some ss → ks.map keyOf = (ss.map fun s => (⟨s.toArray⟩ : Str)).map Sum.inr
  | [], _, h => by cases h; rfl
  | .inr s :: ks, ss, h => by
    unfold strsK at h
    cases q : strsK ks with
    | none => rw [q] at h; cases h
    | some cs =>
      rw [q] at h
      cases h
      rw [List.map_cons, strsK_at q]
      rfl
  | .inl _ :: _, _, h => by cases h
/-- sorted(d): the keys -/
def sortDD (ds : List D) (st : Sto) : R D := match ds with
  | [d] => (match dictOf d st with
    | some (ks, _) => (match strsK ks with
      | some ss => if ss.length < 64 then .ok (.lst ((sortL ss).map .str)) st else .bad
      | none => .bad)
    | none => .bad)
  | _ => .bad
section
variable {X : Cx}
theorem sortD_s (hc : X.calm = true) : CallR X (.builtin "sorted") (rN X.K sortDD) := by
  intro pins s σ H xs us Q I r h
  obtain ⟨ds, st, io, so, rl, p⟩ := h
  unfold sortDD at p
  split at p
  · rename_i d
    obtain ⟨v, rfl, rd⟩ := rl.one
    split at p
    · rename_i ks vs hd
      split at p
      · rename_i ss hs
        obtain ⟨h64, p⟩ := Post.ite p
        obtain ⟨a, zs, rfl, ha, hl, rz⟩ := dictOf_at hd so rd
        refine call_sortedD hc pins s σ H _ us Q I r ⟨a, _, ss.map fun s => (⟨s.toArray⟩ : Str), rfl, ha, ?_, by rw [List.length_map]; exact h64, fun ys q hp hsd hn => ?_⟩
        · rw [List.map_fst_zip (by simp [hl])]
          exact strsK_at hs
        · have e := sorted_one hp hsd
          subst e
          refine p.newL so ?_ q hn
          rw [List.map_map]
          exact RepL.map (f := D.str) (g := fun s => V.str ⟨s.toArray⟩) (fun _ => rfl) _
      · exact p.elim
    · exact p.elim
  · exact p.elim
end
/-! ### dict(x) -/
def pairsK : List D → Option (List KeyD × List D)
  | [] => some ([], [])
  | .tup [a, b] :: r => (match keyD a, pairsK r with
    | some k, some p => some (k :: p.1, b :: p.2)
    | _, _ => none)
  | _ => none
/-- a list, a tuple of pairs -/
theorem pairsK_at {K : PySem.W.Frag} {H : Hp} {io : Io} : ∀ {ds : List D} {xs : List V} {p : List KeyD × List D}, pairsK ds = some p → RepL K H io ds xs →
    ∃ (ps : List Addr) (zs : List V), xs = ps.map V.ref ∧ p.1.length = zs.length ∧ RepL K H io p.2 zs ∧ Paired (fun q kv => H q = some (.tup [kV kv.1, kv.2])) ps ((p.1.map keyOf).zip zs)
  | [], _, _, h, r => by cases h; cases r; exact ⟨[], [], rfl, rfl, rfl, .nil⟩
  | d :: ds, _, p, h, r => by
    obtain ⟨y, xr, rfl, r1, r2⟩ := r
    cases d <;> first | (simp [pairsK] at h; done) | skip
    rename_i es
    match es, h, r1 with
    | [a, b], h, r1 =>
      unfold pairsK at h
      cases ka : keyD a with
      | none => rw [ka] at h; cases h
      | some k =>
        cases kr : pairsK ds with
        | none => rw [ka, kr] at h; cases h
        | some p' =>
          rw [ka, kr] at h
          cases h
          obtain ⟨q, ys, rfl, hq, ry⟩ := r1
          obtain ⟨y1, y2, rfl, ra, rb⟩ := ry.two
          obtain ⟨ps, zs, rfl, hl, rz, pr⟩ := pairsK_at kr r2
          refine ⟨q :: ps, y2 :: zs, rfl, by simp [hl], .cons rb rz, ?_⟩
          rw [List.map_cons, List.zip_cons_cons]
          refine .cons ?_ pr
          rw [← keyD_at ka ra]
          exact hq
    | [], h, _ => simp [pairsK] at h
    | [_], h, _ => simp [pairsK] at h
    | _ :: _ :: _ :: _, h, _ => simp [pairsK] at h
def dictX (ds : List D) (st : Sto) : R D := match ds with
  | [.tuq es] => (match pairsK es with
    | some p => .ok (.loc st.length) (st ++ [.dct (putAll [] [] p.1 p.2).1 (putAll [] [] p.1 p.2).2])
    | none => .bad)
  | [.tup _] => .bad
  | [d] => (match dictOf d st with
    | some (ks, vs) => .ok (.loc st.length) (st ++ [.dct ks vs])
    | none => (match itemsOf d st with
      | some xs => (match pairsK xs with
        | some p => .ok (.loc st.length) (st ++ [.dct (putAll [] [] p.1 p.2).1 (putAll [] [] p.1 p.2).2])
        | none => .bad)
      | none => .bad))
  | _ => .bad
section
variable {X : Cx}
/-- dict(t) of a tuple of pairs -/
theorem call_dictT (hcalm : X.calm = true) : CallR X (.type "dict") (fun xs H Q => ∃ (a : Addr) (ps : List Addr) (kvs : List (Key × V)) (o : Obj), xs = [.ref a] ∧ H a = some (.frz o (.tup (ps.map V.ref))) ∧ o.cls = .type "tuple" ∧ o.dict = none ∧ Paired (fun p kv => SqT X.K H p [kV kv.1, kv.2]) ps kvs ∧
    ∀ p, H p = none → Q (.ref p) (upd H p (.dK (mergeK [] kvs)))) := by
  intro pins s σ H xs us Q I r q
  obtain ⟨a, ps, kvs, o, ex, hq, hc, hd, hp, q⟩ := q
  subst ex
  obtain ⟨u, eu, rx⟩ := vals1 r
  subst eu
  cases rx
  obtain ⟨ho, hz, its, rv, o', ho', _, n, hdat⟩ := I.hok a _ hq
  rw [ho] at ho'
  cases ho'
  have ei := refs_at rv
  subst ei
  rw [List.length_map] at hz
  obtain ⟨prs, rel, hl, hpr⟩ := pairs_of I hp
  have hpl : ps.length = prs.length := hl.symm
  have hex : ∃ vps : List (Value × Value), vps.length = prs.length ∧ ∀ (j : Nat) (k v : Value), vps[j]? = some (k, v) → ∃ (b : Addr) (q : Key × Value), ps[j]? = some b ∧ prs[j]? = some q ∧ q.2 = v ∧ IsTup s.heap b #[k, v] ∧ keyIs q.1 k = true := by
    clear rel
    have go : ∀ (prs : List (Key × Value)) (ps : List Addr), ps.length = prs.length → (∀ (j : Nat) (q : Key × Value), prs[j]? = some q → ∃ (b : Addr) (u : Value), ps[j]? = some b ∧ IsTup s.heap b #[u, q.2] ∧ keyIs q.1 u = true) →
        ∃ vps : List (Value × Value), vps.length = prs.length ∧ ∀ (j : Nat) (k v : Value), vps[j]? = some (k, v) → ∃ (b : Addr) (q : Key × Value), ps[j]? = some b ∧ prs[j]? = some q ∧ q.2 = v ∧ IsTup s.heap b #[k, v] ∧ keyIs q.1 k = true := by
      intro prs
      induction prs with
      | nil => exact fun ps _ _ => ⟨[], rfl, fun j k v e => by simp at e⟩
      | cons q prs ih =>
        intro ps hl hp
        cases ps with
        | nil => cases hl
        | cons b ps =>
          obtain ⟨vps, e1, e2⟩ := ih ps (by simpa using hl) fun j q' hq' => by
            obtain ⟨b', u', z1, z2⟩ := hp (j + 1) q' (by simpa using hq')
            exact ⟨b', u', by simpa using z1, z2⟩
          obtain ⟨b', u, z1, z2, z3⟩ := hp 0 q rfl
          cases z1
          refine ⟨(u, q.2) :: vps, by simp [e1], fun j k v e => ?_⟩
          cases j with
          | zero => cases e; exact ⟨b, q, rfl, rfl, rfl, z2, z3⟩
          | succ j =>
            obtain ⟨b2, q2, w⟩ := e2 j k v (by simpa using e)
            exact ⟨b2, q2, by simpa using w⟩
    exact go prs ps hpl hpr
  obtain ⟨vps, hv1, hv2⟩ := hex
  have at_ : ∀ j, j < ps.length → ps[j]? = some (ps.getD j 0) := fun j hj => by rw [List.getD_eq_getElem?_getD, List.getElem?_eq_getElem hj]; rfl
  refine PySem.call_dict_pairs (knd := mixKind X.prog X.w) (kvs := prs) (PairArg.tuple (prog := X.prog) (w := X.w) a (ps.map Value.ref).toArray (fun j => ps.getD j 0) vps) (I.ok.hd hcalm) ⟨⟨o, n, ho, hc, hd, hdat⟩, by simp [hv1, hpl], fun j k v e => ?_⟩ ⟨by rw [hv1], fun i key v e => ?_⟩ (by rw [hv1, ← hpl]; exact hz) fun h' tk hd' hk => ?_
  · obtain ⟨b, q', e1, e2, e3, e4, e5⟩ := hv2 j k v e
    have hj : j < ps.length := (List.getElem?_eq_some_iff.mp e1).1
    have e6 := at_ j hj
    rw [e1] at e6
    cases e6
    exact ⟨by show (ps.map Value.ref).toArray[j]? = _; rw [List.getElem?_toArray, List.getElem?_map, e1]; rfl, .inl e4⟩
  · obtain ⟨b, q', e1, e2, e3, e4, e5⟩ := hv2 i key v e
    refine ⟨q'.1, ?_, e5⟩
    rw [e2, ← e3]
  · have hm : (s.heap.objs.size == sysModules) = false := beq_eq_false_iff_ne.mpr (Nat.ne_of_gt I.big)
    have hlen : (mergeK [] kvs).length ≤ sizeLine := by
      refine Nat.le_trans (length_mergeK kvs []) ?_
      rw [List.length_nil, Nat.zero_add, rel.length, hl]
      exact hz
    exact ⟨.ref s.heap.objs.size, upd H s.heap.objs.size (.dK (mergeK [] kvs)), I.laid (t' := tk) (fun b o' e => hk b o' (by simp) e) (Nat.le_refl _) (show ObjOk X.prog X.w _ _ _ (.dK (mergeK [] kvs)) from ⟨hlen, hm, merged [] prs, KV.merge rel .nil, hd'⟩), rfl, q _ (I.hok.fresh (Nat.le_refl _))⟩
theorem newDct {K : PySem.W.Frag} {io : Io} {H : Hp} {W : XK} {Q : VK} {st : Sto} {ks : List KeyD} {vs : List D} {xs : List V} {p : Addr} (pp : Post K io H W (RpD K) (.ok (.loc st.length) (st ++ [.dct ks vs])) Q) (so : StOk K H io st) (hl : ks.length = xs.length) (rl : RepL K H io vs xs) (hp : H p = none) : Q (.ref p) (upd H p (.dK ((ks.map keyOf).zip xs))) := by
  have x := Ext.push so hp (HO.dK ((ks.map keyOf).zip xs))
  exact pp _ _ _ x (so.push hp ⟨xs, upd_same, hl, RepL.ext x _ _ rl⟩) ⟨p, by unfold Io.get Io.push; rw [← so.len]; exact List.getElem?_concat_length, rfl⟩
theorem dict_s (hc : X.calm = true) : CallR X (.type "dict") (rN X.K dictX) := by
  intro pins s σ H xs us Q I r h
  obtain ⟨ds, st, io, so, rl, p⟩ := h
  unfold dictX at p
  split at p
  · rename_i es
    obtain ⟨v, rfl, rd⟩ := rl.one
    split at p
    · rename_i pr hpr
      obtain ⟨a, ys, rfl, ⟨o, ha, na, c1, c2⟩, re⟩ := rd
      obtain ⟨ps, zs, rfl, hl, rz, pd⟩ := pairsK_at hpr re
      obtain ⟨qs, g1, g2, g3⟩ := putAll_at (ks := []) (vs := []) (xs := []) rfl .nil hl rz
      refine call_dictT hc pins s σ H _ us Q I r ⟨a, ps, _, o, rfl, ha, c1, c2, Paired.mapP pd fun q kv e => .of e, fun q hq => ?_⟩
      have e : mergeK [] ((pr.1.map keyOf).zip zs) = _ := g1
      rw [e]
      exact newDct p so g2 g3 hq
    · exact p.elim
  · exact p.elim
  · rename_i d hn1 hn2
    obtain ⟨v, rfl, rd⟩ := rl.one
    split at p
    · rename_i ks vs hd
      obtain ⟨a, zs, rfl, ha, hl, rz⟩ := dictOf_at hd so rd
      exact call_dictD pins s σ H _ us Q I r ⟨a, _, rfl, ha, fun q hq => newDct p so hl rz hq⟩
    · split at p
      · rename_i es hi
        split at p
        · rename_i pr hpr
          obtain ⟨a, ys, rfl, re, hs⟩ := itemsOf_t hi so rd
          obtain ⟨ps, zs, rfl, hl, rz, pd⟩ := pairsK_at hpr re
          obtain ⟨qs, g1, g2, g3⟩ := putAll_at (ks := []) (vs := []) (xs := []) rfl .nil hl rz
          have sl : SqL X.K H a (ps.map V.ref) := by
            rcases hs with hs | hs
            · exact hs
            · exfalso
              cases d <;> simp [itemsOf] at hi
              · exact hn2 _ rfl
              · obtain ⟨b, ys2, e, hb, _⟩ := rd; cases e
                rw [hb.1] at hs; cases hs
              · obtain ⟨b, ys2, e, hb, _⟩ := rd; cases e
                exact no_both I (.of hs) hb.sql
              · rename_i n
                obtain ⟨b, eb, e⟩ := rd; cases e
                obtain ⟨o1, h1, h2⟩ := so.has (.inl (Io.get_mem eb))
                rw [hs] at h1; cases h1
                exact h2 _ rfl
          refine call_dictP hc pins s σ H _ us Q I r ⟨a, ps, _, rfl, sl, Paired.mapP pd fun q kv e => .of e, fun q hq => ?_⟩
          have e : mergeK [] ((pr.1.map keyOf).zip zs) = _ := g1
          rw [e]
          exact newDct p so g2 g3 hq
        · exact p.elim
      · exact p.elim
  · exact p.elim
end
end Mi

set_option maxRecDepth 100000
set_option maxHeartbeats 4000000
/-! tuple(d.items()) -/
namespace Mi
open PySem PySem.Spec PyProof.Rows L2
section
variable {prog : Program} {w : World} {A : Around} {E : Value → Shared → Prop} {s : Shared} {r d : Addr} {K : Type} [DecidableEq K] {knd : KeyKind prog w K} {kvs : List (K × Value)} {ep : Nat}
theorem code_tuple_items {Q₁ : Value → Shared → Prop} (hh : A.handled = none) (hv : s.heap.IsItemsView r d) (hm : s.heap.DictAt knd d kvs ep) (hn : kvs.length ≤ sizeLine)
    (h : ∀ (h' : Heap) (tk : Nat) (as : List Addr), (∀ b o, s.heap.get? b = some o → h'.get? b = some o) → as.length = kvs.length → PySem.W.KdxG knd kvs s.heap.objs.size h' as →
      Q₁ (.ref h'.objs.size) { s with heap := h'.push { cls := .type "tuple", data := .seq (as.map Value.ref).toArray }, toks := tk }) :
    codeAny (model prog w) A (.call (.builtin "tuple.__new__") ⟨[.type "tuple", .ref r], []⟩) (wants Q₁ E) s := by
  refine codeAny_of_tree ?_
  show wpAny _ A.in1 (do checkBuiltinCall "tuple.__new__" ⟨[.type "tuple", .ref r], []⟩; again (.builtin "tuple.__new__" ⟨[.type "tuple", .ref r], []⟩)) _ _ s
  refine wpAny_bind (wpAny_of_eq (F.newCall_tuple_1 _) (wpAny_pure ⟨plainId_quiet F.plain_tuple_new _, codeAny_builtin F.entry_tuple_new ?_⟩))
  rw [Around.under_plainId F.plain_tuple_new _]
  have hsub := sub_tuple_self
  have hinit := init_tuple_lookup
  have hmh := madeHere_tuple
  have hTI : s.TypeIs (.ref r) "dict_items" := hv.typeIs
  have hh1 : A.in1.handled = none := hh
  wp_walk using wpAny_typeOf hTI, PySem.W.kdx_collect (A := A.in1) hh1 hv hm hn
  intro h' tk as hk hl hG
  show wpAny _ _ (Builtin.Tuple.tupleExact (as.map Value.ref).toArray >>= fun v => ret v) _ _ _
  unfold Builtin.Tuple.tupleExact
  refine wpAny_bind (wpAny_newObj_type ?_ (by show (as.map Value.ref).toArray.size ≤ sizeLine; rw [List.size_toArray, List.length_map, hl]; exact hn))
  exact wpAny_pure (h h' tk as hk hl hG)
theorem call_tuple_items {Q : Value → Shared → Prop} (hh : A.handled = none) (hv : s.heap.IsItemsView r d) (hm : s.heap.DictAt knd d kvs ep) (hn : kvs.length ≤ sizeLine)
    (hQ : ∀ (h' : Heap) (tk : Nat) (as : List Addr), (∀ b o, s.heap.get? b = some o → h'.get? b = some o) → as.length = kvs.length → PySem.W.KdxG knd kvs s.heap.objs.size h' as →
      Q (.ref h'.objs.size) { s with heap := h'.push { cls := .type "tuple", data := .seq (as.map Value.ref).toArray }, toks := tk }) :
    wpAny (model prog w) A (call (.type "tuple") [.ref r]) Q E s := by
  refine callType_codes (Q₁ := fun obj s₁ => s₁.TypeIs obj "tuple" ∧ Q obj s₁) F.called_tuple (F.typeCall_tuple_1 _) F.entry_object_init
    (code_tuple_items (A := A.in1) hh hv hm hn fun h' tk as hk hl hG => ⟨⟨_, Heap.get?_push_size _ rfl, rfl⟩, hQ h' tk as hk hl hG⟩) fun obj s₁ h₁ => ?_
  exact ⟨h₁.1, F.args_object_init_2 obj _, object_init_meets F.called_tuple.init.lookup F.called_tuple.made (by decide) prog w A.in1 _ s₁ ⟨h₁.1, rfl, h₁.2⟩⟩
end
section
variable {X : Cx}
theorem tups_laid {pins : List (Addr × Obj)} {σ : L2.St} {H : Hp} {s : Shared} {h' : Heap} {tk : Nat} {kvs : List (Key × V)} {vs : List (Key × Value)} {as : List Addr} (I : Inv X pins σ H s) (kv : KV kvs vs)
    (hk : ∀ b o, s.heap.get? b = some o → h'.get? b = some o) (hl : as.length = vs.length) (hG : PySem.W.KdxG (mixKind X.prog X.w) vs s.heap.objs.size h' as) :
    ∃ H' : Hp, (∀ b o, H b = some o → H' b = some o) ∧ (∀ t ∈ as, H t = none) ∧ (∀ b, b ∉ as → H' b = H b) ∧ Paired (fun (t : Addr) (q : Key × V) => H' t = some (.tup [kV q.1, q.2])) as kvs ∧ Inv X pins σ H' { s with heap := h', toks := tk } := by
  have lk : kvs.length = vs.length := Paired.length kv
  have nd : as.Nodup := List.Pairwise.imp (fun {a b} (h : a < b) => Nat.ne_of_lt h) hG.rise
  have new : ∀ t ∈ as, H t = none := fun t ht => I.hok.fresh (Nat.le_of_lt (hG.above t ht))
  have atP := LiI.putT_at as kvs H (by omega) nd
  have off : ∀ b, b ∉ as → LiI.putT H as kvs b = H b := fun b h1 => LiI.putT_off as kvs _ h1
  have low : ∀ b o, s.heap.get? b = some o → b ∉ as := fun b o e z => absurd (Heap.lt_size e) (Nat.not_lt.mpr (Nat.le_of_lt (hG.above b z)))
  have kp : ∀ b u, H b = some u → (LiI.putT H as kvs) b = some u := fun b u e => by
    rw [off b (fun z => by rw [new b z] at e; cases e)]
    exact e
  refine ⟨LiI.putT H as kvs, kp, new, off, atP, ?_⟩
  refine I.call' (ch := []) rfl ⟨fun b o q _ _ _ => hk b o q, fun b o q _ _ _ => ⟨o.slots, hk b o q⟩, fun b o q n _ => ?_, fun b o q _ => ⟨o, hk b o q⟩, fun b xs q => kp b _ q, fun b o u q => kp b _ q, fun b ps q => ⟨#[], by rw [kp b _ q]; simp⟩⟩ (fun b u q => ?_) I.bare fun b z => by simp at z
  · rw [off b (low b o q)]
    exact n
  · by_cases hb : b ∈ as
    · obtain ⟨j, pk, e1, e2, e3⟩ := LiI.paired_ix atP hb
      rw [e3] at q
      cases q
      obtain ⟨key, k, x, f1, f2, f3⟩ := hG.pairs j b e1
      obtain ⟨qv, g1, g2, g3⟩ := LiI.paired_get kv e2
      rw [f1] at g1
      cases g1
      have rk : RelV (kV pk.1) key := by
        rw [g2]
        exact relV_key (show keyIs k key = true from f2)
      exact ⟨by show 2 ≤ sizeLine; decide, [key, x], .cons rk (.cons g3 .nil), ⟨_, f3, rfl, _, rfl⟩⟩
    · rw [off b hb] at q
      exact (I.hok b u q).stay (fun d v _ y => hk d v y) (fun d y => kp d _ y) fun d xs y => kp d _ y
def tTupItems (te : TE) : TE := fun σ H Q => te σ H fun x H1 => ∃ (d : Addr) (kvs : List (Key × V)), x = .ref d ∧ Rd H1 d (.dK kvs) ∧
  ∀ (H' : Hp) (p : Addr) (o : Obj) (ts : List Addr), (∀ b u, H1 b = some u → H' b = some u) → (∀ b u, H1 b = none → H' b = some u → b = p ∨ b ∈ ts) → H1 p = none → (∀ t ∈ ts, H1 t = none) → p ∉ ts → H' p = some (.frz o (.tup (ts.map V.ref))) → o.cls = .type "tuple" → o.dict = none →
    Paired (fun (t : Addr) (q : Key × V) => H' t = some (.tup [kV q.1, q.2])) ts kvs → Q (.ref p) H'
/-- tuple(e.items()) -/
theorem pe_tupItems {e : Expr} {te : TE} {p apos cpos pos : Pos} (hc : X.calm = true) (he : PE X e te) (hg : Gl X "tuple") (hm : X.mg "tuple" = none) (hbase : attributeBase e "items" X.env (eval e X.env) = eval e X.env) (hline : (apos.endLine == cpos.line) = true)
    (hs : starEach [.Call (.Attribute e "items" apos) [] [] cpos] X.env = (false, eval (.Call (.Attribute e "items" apos) [] [] cpos) X.env) :: starEach [] X.env := by rfl) :
    PE X (.Call (.Name "tuple" p) [.Call (.Attribute e "items" apos) [] [] cpos] [] pos) (tTupItems te) := by
  refine ⟨fun pins s σ H Q I hq => ?_⟩
  refine wpAny_Call_Name_kw (ld_blt I hg hm boot_tuple ?_)
  refine PyProof.Rows.callWith_type1 ?_ hs rfl
  rw [hs]
  show wpAny _ _ (spliced ((false, eval (.Call (.Attribute e "items" apos) [] [] cpos) X.env) :: backTo pos (starEach [] X.env))) _ _ s
  refine Calls.spliced_cons ?_
  refine wpAny_Call_method (T := "dict") (id := "dict.items") hbase rfl hline F.plainAttrs_dict F.slot_dict_items F.type_dict_items (thn (he.run pins s σ H _ I hq) fun u s1 ⟨x, H1, I1, rx, d, kvs, ex, hd, q⟩ => ?_)
  subst ex
  obtain rfl : u = Value.ref d := rx
  obtain ⟨hz, hs0, vs, kv, hdo⟩ := dk_rd I1.hok hd
  obtain ⟨ep, hat⟩ := hdo.dictAt
  have lk : kvs.length = vs.length := Paired.length kv
  have I2 : Inv X pins σ H1 { s1 with heap := s1.heap.push { cls := .type "dict_items", data := .fields #[.ref d] } } := I1.kept (t' := s1.toks) fun b ob q => Heap.get?_push_of_some _ q
  refine ⟨hdo.typeIs, hdo.mapOf.noDict, ?_⟩
  show wpAny _ _ (callWith cpos (.builtin "dict.items") [.ref d] [] []) _ X.xe s1
  refine method_meetsIn F.slot_dict_items F.entry_dict_items rfl (PySem.evalArgs_none ⟨rfl, hdo.typeIs, F.args_dict_items_1 _, _, meets_dict_items (mixKind X.prog X.w) d hs0, ⟨vs, hdo⟩, ?_⟩)
  refine Calls.spliced_nil ?_
  refine call_tuple_items (knd := mixKind X.prog X.w) (kvs := vs) (ep := ep) (I1.ok.hd hc) ⟨_, Heap.get?_push_size _ rfl, rfl, rfl⟩ (hat.push _) (by omega) fun h' tk as hk hl hG => ?_
  obtain ⟨H', k1, k3, k4, k6, J⟩ := tups_laid (tk := tk) I2 kv hk hl hG
  have nP : H' h'.objs.size = none := J.hok.fresh (Nat.le_refl _)
  have nas : h'.objs.size ∉ as := fun z => Nat.lt_irrefl _ (hG.there z)
  have nP1 : H1 h'.objs.size = none := by rw [← k4 _ nas]; exact nP
  have J2 := J.laid (t' := tk) (o := HO.frz { cls := .type "tuple", data := .seq (as.map Value.ref).toArray } (.tup (as.map V.ref))) (fun b u e => Heap.get?_push_of_some _ e) (Nat.le_refl _)
    (show ObjOk X.prog X.w _ _ _ _ from ⟨Heap.get?_push_size _ rfl, by rw [List.length_map]; omega, as.map Value.ref, LiI.vals_refs as, IsTup.new _ _⟩)
  refine ⟨.ref _, _, J2, rfl, q _ _ _ as (fun b u e => ?_) (fun b u e1 e2 => ?_) nP1 k3 nas upd_same rfl rfl (L2.Paired.mapP k6 fun t q e => ?_)⟩
  · rw [upd_ne (ne_of_none (k1 b u e) nP)]
    exact k1 b u e
  · by_cases hb : b = h'.objs.size
    · exact .inl hb
    · rw [upd_ne hb] at e2
      refine .inr (Classical.byContradiction fun z => ?_)
      rw [k4 b z, e1] at e2
      cases e2
  · rw [upd_ne (ne_of_none e nP)]
    exact e
end
/-- all that stood stands -/
theorem Ext.all {K : PySem.W.Frag} {H H' : Hp} {io : Io} {st : Sto} (so : StOk K H io st) (h : ∀ b u, H b = some u → H' b = some u) : Ext io H io H' :=
  ⟨⟨[], by simp⟩, rfl, fun a o e _ => h a o e, fun a m n => ⟨by obtain ⟨_, o, e, _⟩ := so.hs a m; rw [h a o e, e], n⟩, fun a xs e => h a _ e, fun a o u e => h a _ e, fun a h1 h2 => absurd h1 h2⟩
theorem StOk.all {K : PySem.W.Frag} {H H' : Hp} {io : Io} {st : Sto} (so : StOk K H io st) (h : ∀ b u, H b = some u → H' b = some u) : StOk K H' io st :=
  ⟨so.len, so.nd, fun n a b e1 e2 => (so.ob n a b e1 e2).ext (Ext.all so h) (by
    obtain ⟨u, e, _⟩ := (so.ob n a b e1 e2).some
    rw [h a u e, e]), fun a m => let ⟨n, o, e, r⟩ := so.hs a m; ⟨n, o, h a o e, r⟩⟩
def keyV : KeyD → D
  | .inl i => .int i
  | .inr s => .str s
theorem keyV_rep {K : PySem.W.Frag} {H : Hp} {io : Io} (k : KeyD) : Rep K H io (keyV k) (kV (keyOf k)) := by
  cases k <;> rfl
def itsD (d : D) (st : Sto) : Option (List D) := match dictOf d st with
  | some (ks, vs) => some ((ks.zip vs).map fun p => .tup [keyV p.1, p.2])
  | none => none
theorem its_rep {K : PySem.W.Frag} {H : Hp} {io : Io} : ∀ {ks : List KeyD} {vs : List D} {xs : List V} {ts : List Addr}, RepL K H io vs xs → ks.length = xs.length → Paired (fun (t : Addr) (q : Key × V) => H t = some (.tup [kV q.1, q.2])) ts ((ks.map keyOf).zip xs) →
    RepL K H io ((ks.zip vs).map fun p => .tup [keyV p.1, p.2]) (ts.map V.ref)
  | [], vs, xs, ts, r, hl, p => by
    cases p
    simp [RepL]
  | k :: ks, [], xs, ts, r, hl, p => by cases r; cases hl
  | k :: ks, v :: vs, xs, ts, r, hl, p => by
    obtain ⟨x, xr, rfl, r1, r2⟩ := r
    rw [List.map_cons, List.zip_cons_cons] at p
    cases p with
    | cons h t =>
      rename_i a as
      rw [List.zip_cons_cons, List.map_cons, List.map_cons]
      exact .cons ⟨a, _, rfl, h, .cons (keyV_rep k) (.cons r1 .nil)⟩ (its_rep r2 (by simpa using hl) t)
end Mi

set_option maxRecDepth 100000
set_option maxHeartbeats 4000000
namespace Mi
open PySem PySem.Spec L2

/-! ### the code -/
inductive B2 where
  | add | sub | mul | div | mod | pow | addL
  deriving DecidableEq
inductive C2 where
  | eq | ne | lt | le | gt | ge | inn | notin | is | inT | notinT | neNil | ltT | isnot
  deriving DecidableEq
inductive Bf where
  | len | all | any | int | abs | max | min | list | listM | tuple | isi | repr | lenT | sortD | dict
  deriving DecidableEq
/-- methods of built-in types -/
inductive Bm where
  | split | lstrip | join | append | extend | pop | get | index | update | sindex
  deriving DecidableEq
/-- what a walk walks: a list or tuple; a range; zip of two tuples; a text -/
inductive Ik where
  | seq | range1 | range2 | zip | keys | own | items
  deriving DecidableEq
inductive E where
  | nil | cons (a r : E)
  | var (i : Nat) | int (i : Int) | str (s : List Nat) | bool (b : Bool) | non
  | glo (x : Nat) | ty (n : Nat)
  | bin (o : B2) (a b : E) | neg (a : E)
  | and (a b : E) | or (a b : E) | not (a : E)
  | cmp (o : C2) (a b : E) | chain (o o2 : C2) (a b c : E) | isn (a : E) | notn (a : E)
  | ite (c a b : E)
  | tup (es : E) | lst (m : Bool) (es : E) | edct
  | idx (a b : E) | get (a b : E) | sl (a lo hi : E) | rev (a : E)
  | bcall (f : Bf) (es : E) | sset (a : E) | upper (a : E)
  | call (f : Nat) (es : E) | callv (i : Nat) (es : E) | callk (f : Nat) (k : Str) (e : E)
  | lc (k : Ik) (is : List Nat) (un : Bool) (own : List (Str × Nat)) (src cond elt : E)
  | junk | attr (f : Nat) (a : E) | meth (m : Nat) (o es : E) | make (c : Nat) (es : E) | bm (m : Bm) (o es : E) | ndct | getT (a b : E) | tups (es : E) | star (a r : E)
  | dc (t : Bool) (k : Ik) (is : List Nat) (un : Bool) (own : List (Str × Nat)) (src cond key val : E)
  | lk (src e : E) | prop (f : Nat) (a : E) | tupIt (a : E) | gin (g : Nat) (a : E) | gget (g : Nat) (b : E)

abbrev Call := Nat → List D → Sto → R D
/-- what is known of a module: names it has not; its own defs; its data -/
structure Gs where
  no : List Str
  fns : List (Nat × List Str)
  glo : List (Nat × D)
  fld : List (Nat × List Nat) := []
  itr : List (Nat × Nat) := []
  exc : List (Nat × Nat) := []
  exh : List (Nat × List Nat) := []
  dic : List (Nat × List (List Nat × D)) := []
/-- the fields that a class's objects may be asked for; its methods -/
def Gs.F (G : Gs) : Fld := fun c f => ((G.fld.lookup c).getD []).contains f
def Gs.M (G : Gs) (c m : Nat) : Bool := decide (0 < c) && decide (m ≠ 272) && (G.fns.lookup (c * 10000 + m)).isSome
def Gs.I (G : Gs) (c : Nat) : Bool := decide (0 < c) && (G.fns.lookup (c * 10000 + 272)).isSome
/-- a module's dict with texts as keys: is it in it; what stands there -/
def ginD (kvs : Option (List (List Nat × D))) : D → Sto → R D
  | .str s, st => (match kvs with
    | some l => .ok (.bl (l.lookup s).isSome) st
    | none => .bad)
  | _, _ => .bad
def ggetD (kvs : Option (List (List Nat × D))) : D → Sto → R D
  | .str s, st => (match kvs with
    | some l => (match l.lookup s with
      | some d => .ok d st
      | none => .bad)
    | none => .bad)
  | _, _ => .bad
def isB : D → D → Sto → R D
  | .bl a, .bl b, st => .ok (.bl (decide (a = b))) st
  | _, _, _ => .bad
def isnotB : D → D → Sto → R D
  | .bl a, .bl b, st => .ok (.bl (!decide (a = b))) st
  | _, _, _ => .bad
/-- o.m(..) of an own class; C(..), C an own class -/
def metR (M : Nat → Nat → Bool) (C : Call) (m : Nat) (mo : En → Sto → R D) (ms : En → Sto → R (List D)) (en : En) (st : Sto) : R D := (mo en st).bind fun x st0 => match recvD M m x st0 with
  | some key => (ms en st0).bind fun ds st => C key (x :: ds) st
  | none => .bad
def newR (C : Call) (c : Nat) (ds : List D) (st : Sto) : R D := (C (c * 10000 + 272) (.loc st.length :: ds) (st ++ [.ins c [] []])).bind fun v st' => match v with
  | .non => .ok (.loc st.length) st'
  | _ => .bad
def isLocDc (x : D) (st : Sto) : Bool := match x with
  | .loc n => (match st[n]? with
    | some (.dct _ _) => true
    | _ => false)
  | _ => false
def bmOk : Bm → D → Sto → Bool
  | .split, x, _ | .lstrip, x, _ | .join, x, _ | .sindex, x, _ => isStrD x
  | .append, x, st | .extend, x, st | .pop, x, st | .index, x, st => isLocL x st
  | .get, x, st => (dictOf x st).isSome
  | .update, x, st => isLocDc x st
@[reducible] def bmD : Bm → D → List D → Sto → R D
  | .split => splitD | .lstrip => lstripD | .join => joinD | .append => appendD | .extend => extendD | .pop => popD | .get => getMD | .index => indexD | .update => updateD | .sindex => sindexD
@[reducible] def b2 : B2 → D → D → Sto → R D
  | .add => addD | .sub => subD | .mul => mulD | .div => divD | .mod => modD | .pow => powD | .addL => addLD
@[reducible] def c2 : C2 → D → D → Sto → R D
  | .eq => eqD | .ne => neD | .lt => ltI fun i j => decide (i < j) | .le => ltI fun i j => decide (i ≤ j) | .gt => ltI fun i j => decide (j < i) | .ge => ltI fun i j => decide (j ≤ i)
  | .inn => inD | .notin => notInD | .is => isB | .inT => inTD | .notinT => notInTD | .neNil => neNilD | .ltT => ltTD | .isnot => isnotB
@[reducible] def bf : Bf → List D → Sto → R D
  | .len => lenD | .all => allD | .any => anyD | .int => intD | .abs => absD | .max => maxD | .min => minD | .list => listD | .listM => listM | .tuple => tupleD | .isi => isiD | .repr => reprD | .lenT => lenTD | .sortD => sortDD | .dict => dictX
def negD (d : D) (st : Sto) : R D := match d with
  | .int i => .ok (.int (-i)) st
  | _ => .bad
def isNon : D → Bool
  | .non => true
  | _ => false
def revD (d : D) (st : Sto) : R D := match d with
  | .tup ds => .ok (.tup ds.reverse) st
  | _ => .bad
def seqD (d : D) : Option (List D) := match d with
  | .tup ds => some ds
  | .lst ds => some ds
  | .fro ds => some ds
  | .tuq ds => some ds
  | .str s => some (s.map fun c => .str [c])
  | _ => none
/-- a list of the store, locked -/
def seqS (d : D) (st : Sto) : Option (List D) := match d with
  | .loc n => (match st[n]? with
    | some (.frl ds) => some ds
    | _ => none)
  | d => seqD d
def one1 (ds : List D) (st : Sto) : Option (List D) := match ds with
  | [d] => seqS d st
  | _ => none
/-- the pairs of a locked dict -/
def itsF (d : D) (st : Sto) : Option (List D) := match d with
  | .dct ks vs => some ((ks.zip vs).map fun p => .tup [keyV p.1, p.2])
  | .loc n => (match st[n]? with
    | some (.frd ks vs) => some ((ks.zip vs).map fun p => .tup [keyV p.1, p.2])
    | _ => none)
  | _ => none
def its1 (ds : List D) (st : Sto) : Option (List D) := match ds with
  | [d] => itsF d st
  | _ => none
def rng1 (ds : List D) : Option (List D) := match ds with
  | [.int j] => if -(2 ^ 62) ≤ j ∧ j < 2 ^ 62 then some ((List.range j.toNat).map fun i : Nat => .int (0 + (i : Int))) else none
  | _ => none
def rng2 (ds : List D) : Option (List D) := match ds with
  | [.int i, .int j] => if -(2 ^ 62) ≤ i ∧ i < 2 ^ 62 ∧ -(2 ^ 62) ≤ j ∧ j < 2 ^ 62 then some ((List.range (j - i).toNat).map fun m : Nat => .int (i + (m : Int))) else none
  | _ => none
def zip2 (ds : List D) : Option (List D) := match ds with
  | [.tup xs, .tup ys] => some ((xs.zip ys).map fun p => .tup [p.1, p.2])
  | _ => none
/-- a dict that stays, by its keys -/
def keys1 (ds : List D) : Option (List D) := match ds with
  | [.dct ks _] => some (ks.map keyV)
  | [.dtu ks _] => some (ks.map fun k => .tup (k.map keyV))
  | _ => none
/-- an object whose class tells the items of a field; a tuple -/
def own1 (G : Gs) (ds : List D) (st : Sto) : Option (List D) := match ds with
  | [.tup xs] => some xs
  | [.lst xs] => some xs
  | [.loc n] => (match st[n]? with
    | some (.ins c fs vs) => (match G.itr.lookup c with
      | some f => (match lookN fs vs f with
        | some (.tup xs) => some xs
        | _ => none)
      | none => none)
    | _ => none)
  | _ => none
/-- what a walk walks -/
def walkOf (G : Gs) (k : Ik) (ds : List D) (st : Sto) : Option (List D) := match k with
  | .seq => one1 ds st
  | .range1 => rng1 ds
  | .range2 => rng2 ds
  | .zip => zip2 ds
  | .keys => keys1 ds
  | .own => own1 G ds st
  | .items => its1 ds st
/-- the names of a target are set -/
def setAll : List Nat → List D → En → Option En
  | [], [], en => some en
  | i :: is, d :: ds, en => setAll is ds (en.set i (some d))
  | _, _, _ => none
/-- a target: one name, or names that a tuple is taken apart into -/
def setT (is : List Nat) (un : Bool) (d : D) (en : En) : Option En := match un, is, d with
  | false, [i], d => some (en.set i (some d))
  | true, is, .tup ds => setAll is ds en
  | _, _, _ => none
def tru (r : R D) : R Bool := r.bind fun d st => match truthD d st with
  | some b => .ok b st
  | none => .bad
/-- a comprehension's turns -/
def lcRun (is : List Nat) (un : Bool) (cond : En → Sto → R Bool) (elt : En → Sto → R D) : List D → En → Sto → List D → R (List D)
  | [], _, st, acc => .ok acc st
  | x :: xs, en, st, acc => match setT is un x en with
    | none => .bad
    | some en' => (cond en' st).bind fun b st => match b with
      | true => (elt en' st).bind fun y st => if acc.length < sz then lcRun is un cond elt xs en st (acc ++ [y]) else .bad
      | false => lcRun is un cond elt xs en st acc
/-- a dict comprehension's turns -/
def dcRun {α : Type} [DecidableEq α] (ky : D → Option α) (is : List Nat) (un : Bool) (cond : En → Sto → R Bool) (key val : En → Sto → R D) : List D → En → Sto → List α → List D → R (List α × List D)
  | [], _, st, ks, vs => .ok (ks, vs) st
  | x :: xs, en, st, ks, vs => match setT is un x en with
    | none => .bad
    | some en' => (cond en' st).bind fun b st => match b with
      | true => (key en' st).bind fun y st => (val en' st).bind fun z st => (match ky y with
        | some k => if ks.length < sz then dcRun ky is un cond key val xs en st (putX ks vs k z).1 (putX ks vs k z).2 else .bad
        | none => .bad)
      | false => dcRun ky is un cond key val xs en st ks vs
/-- no exception gets out -/
def shut {α : Type} : R α → R α
  | .exc _ _ => .bad
  | r => r

@[simp] theorem shut_ok {α : Type} (a : α) (st : Sto) : shut (R.ok a st) = .ok a st := rfl
@[simp] theorem shut_bad {α : Type} : shut (R.bad : R α) = .bad := rfl

/-- locked, unlocked -/
def lockS (n : Nat) (st : Sto) : Option Sto := match st[n]? with
  | some (.lst ds) => some (st.set n (.frl ds))
  | some (.dct ks vs) => some (st.set n (.frd ks vs))
  | _ => none
def unlockS (n : Nat) (st : Sto) : Option Sto := match st[n]? with
  | some (.frl ds) => some (st.set n (.lst ds))
  | some (.frd ks vs) => some (st.set n (.dct ks vs))
  | _ => none
def unlockR {α : Type} (n : Nat) (r : R α) : R α := match r with
  | .ok d st => (match unlockS n st with
    | some st' => .ok d st'
    | none => .bad)
  | _ => .bad
/-- what is to be locked, if anything -/
def lockAt (r : R D) (st : Sto) : Option (Nat × Sto) := match r with
  | .ok (.loc n) _ => (match lockS n st with
    | some st' => some (n, st')
    | none => none)
  | _ => none
mutual
def ev (G : Gs) (C : Call) : E → En → Sto → R D
  | .var i, en, st => (match en[i]? with
    | some (some d) => .ok d st
    | _ => .bad)
  | .int i, _, st => .ok (.int i) st
  | .str s, _, st => .ok (.str s) st
  | .bool b, _, st => .ok (.bl b) st
  | .non, _, st => .ok .non st
  | .glo x, _, st => (match G.glo.lookup x with
    | some d => .ok d st
    | none => .bad)
  | .ty n, _, st => .ok (.ty n) st
  | .bin o a b, en, st => (ev G C a en st).bind fun x st => (ev G C b en st).bind fun y st => shut (b2 o x y st)
  | .neg a, en, st => (ev G C a en st).bind fun x st => shut (negD x st)
  | .and a b, en, st => (ev G C a en st).bind fun x st => (match truthD x st with
    | some true => ev G C b en st
    | some false => .ok x st
    | none => .bad)
  | .or a b, en, st => (ev G C a en st).bind fun x st => (match truthD x st with
    | some true => .ok x st
    | some false => ev G C b en st
    | none => .bad)
  | .not a, en, st => (ev G C a en st).bind fun x st => (match truthD x st with
    | some b => .ok (.bl (!b)) st
    | none => .bad)
  | .cmp o a b, en, st => (ev G C a en st).bind fun x st => (ev G C b en st).bind fun y st => shut (c2 o x y st)
  | .isn a, en, st => (ev G C a en st).bind fun x st => .ok (.bl (isNon x)) st
  | .notn a, en, st => (ev G C a en st).bind fun x st => .ok (.bl (!isNon x)) st
  | .chain o o2 a b c, en, st => (ev G C a en st).bind fun x st => (ev G C b en st).bind fun y st => (shut (c2 o x y st)).bind fun r st => (match r with
    | .bl true => (ev G C c en st).bind fun z st => shut (c2 o2 y z st)
    | .bl false => .ok (.bl false) st
    | _ => .bad)
  | .ite c a b, en, st => (tru (ev G C c en st)).bind fun k st => (match k with
    | true => ev G C a en st
    | false => ev G C b en st)
  | .tup es, en, st => (evs G C es en st).bind fun ds st => if ds.length ≤ sz then .ok (.tup ds) st else .bad
  | .lst m es, en, st => (evs G C es en st).bind fun ds st => if ds.length ≤ sz then (match m with
    | false => .ok (.lst ds) st
    | true => .ok (.loc st.length) (st ++ [.lst ds])) else .bad
  | .edct, _, st => .ok (.dct [] []) st
  | .idx a b, en, st => (ev G C a en st).bind fun x st => (ev G C b en st).bind fun y st => shut (idxD x y st)
  | .get a b, en, st => (ev G C a en st).bind fun x st => (ev G C b en st).bind fun y st => shut (getD x y st)
  | .sl a lo hi, en, st => (ev G C a en st).bind fun x st => (part G C lo en st).bind fun l st => (part G C hi en st).bind fun u st => shut (slD x l u st)
  | .rev a, en, st => (ev G C a en st).bind fun x st => shut (revD x st)
  | .sset a, en, st => (ev G C a en st).bind fun x st => shut (ssetD x st)
  | .upper a, en, st => (ev G C a en st).bind fun x st => shut (upperD x st)
  | .bcall f es, en, st => (evs G C es en st).bind fun ds st => shut (bf f ds st)
  | .call f es, en, st => (evs G C es en st).bind fun ds st => C f ds st
  | .callv i es, en, st => (match en[i]? with
    | some (some (.glo f)) => if (decide (f < 10000) && (G.fns.lookup f).isSome) = true then (evs G C es en st).bind fun ds st => C f ds st else .bad
    | _ => .bad)
  | .callk f _ e, en, st => (ev G C e en st).bind fun d st => C f [d] st
  | .lc k is un own src cond elt, en, st => (evs G C src en st).bind fun ds st => (match walkOf G k ds st with
    | none => .bad
    | some xs => (shut (lcRun is un (evc G C cond) (ev G C elt) xs (wipeE en (own.map (·.2))) st [])).bind fun ds st => .ok (.lst ds) st)
  | .dc t k is un own src cond key val, en, st => (evs G C src en st).bind fun ds st => (match walkOf G k ds st with
    | none => .bad
    | some xs => (match t with
      | false => (shut (dcRun keyD is un (evc G C cond) (ev G C key) (ev G C val) xs (wipeE en (own.map (·.2))) st [] [])).bind fun p st => .ok (.dct p.1 p.2) st
      | true => (shut (dcRun keyT is un (evc G C cond) (ev G C key) (ev G C val) xs (wipeE en (own.map (·.2))) st [] [])).bind fun p st => .ok (.dtu p.1 p.2) st))
  | .attr f a, en, st => (ev G C a en st).bind fun x st => shut (fldD G.F f x st)
  | .meth m o es, en, st => (ev G C o en st).bind fun x st => (match recvD G.M m x st with
    | some key => (evs G C es en st).bind fun ds st => C key (x :: ds) st
    | none => .bad)
  | .make c es, en, st => (evs G C es en st).bind fun ds st => newR C c ds st
  | .bm m o es, en, st => (ev G C o en st).bind fun x st => if bmOk m x st = true then (evs G C es en st).bind fun ds st => shut (bmD m x ds st) else .bad
  | .getT a b, en, st => (ev G C a en st).bind fun x st => (ev G C b en st).bind fun y st => shut (getTD x y st)
  | .ndct, _, st => .ok (.loc st.length) (st ++ [.dct [] []])
  | .tups es, en, st => (evs G C es en st).bind fun ds st => if ds.length ≤ sz then .ok (.tup ds) st else .bad
  | .lk src e, en, st => (match lockAt (ev G C src en st) st with
    | some p => unlockR p.1 (ev G C e en p.2)
    | none => ev G C e en st)
  | .prop f a, en, st => (ev G C a en st).bind fun x st => (match recvD G.M (f + 5000) x st with
    | some key => shut (C key [x] st)
    | none => .bad)
  | .tupIt a, en, st => (ev G C a en st).bind fun x st => (match itsD x st with
    | some xs => .ok (.tuq xs) st
    | none => .bad)
  | .gin g a, en, st => (ev G C a en st).bind fun x st => ginD (G.dic.lookup g) x st
  | .gget g b, en, st => (ev G C b en st).bind fun y st => ggetD (G.dic.lookup g) y st
  | .junk, _, _ => .bad
  | .star _ _, _, _ => .bad
  | .nil, _, _ => .bad
  | .cons _ _, _, _ => .bad
termination_by structural e => e
def evs (G : Gs) (C : Call) : E → En → Sto → R (List D)
  | .nil, _, st => .ok [] st
  | .cons a r, en, st => (ev G C a en st).bind fun x st => (evs G C r en st).bind fun xs st => .ok (x :: xs) st
  | .star a r, en, st => (ev G C a en st).bind fun x st => (match itemsOf x st with
    | some xs => (evs G C r en st).bind fun ys st => .ok (xs ++ ys) st
    | none => .bad)
  | _, _, _ => .bad
termination_by structural e => e
/-- a part of a slice: nil stands for none -/
def part (G : Gs) (C : Call) : E → En → Sto → R (Option Int)
  | .nil, _, st => .ok none st
  | .cons a .nil, en, st => (ev G C a en st).bind fun x st => (match x with
    | .int i => .ok (some i) st
    | _ => .bad)
  | _, _, _ => .bad
termination_by structural e => e
/-- a block's test, nil for none -/
def evc (G : Gs) (C : Call) : E → En → Sto → R Bool
  | .nil, _, st => .ok true st
  | .cons a .nil, en, st => tru (ev G C a en st)
  | _, _, _ => .bad
termination_by structural e => e
end
example (G : Gs) (C : Call) (en : En) (st : Sto) : ev G C (.bin .add (.int 3) (.int 4)) en st = .ok (.int 7) st := rfl
end Mi

set_option maxRecDepth 100000
set_option maxHeartbeats 4000000
/-! own exceptions: what is known of them -/
namespace Mi
section
open PySem PySem.Spec
/-- the suite of a try -/
def ckIsi (n y : Str) : Expr → Bool
  | .Call (.Name z _) [.Name n1 _, .Name y1 _] [] _ => decide (z = "isinstance") && decide (n1 = n) && decide (y1 = y)
  | _ => false
def ckAnd2 (n y1 y2 : Str) : Expr → Bool
  | .BoolOp .And [a, b] _ => ckIsi n y1 a && ckIsi n y2 b
  | _ => false
def ckNm (n : Str) : Expr → Bool
  | .Name m _ => decide (m = n)
  | _ => false
def ckNone : Expr → Bool
  | .Constant .none _ _ => true
  | _ => false
def ckXf (n g : Str) : Expr → Bool
  | .Attribute e g' _ => ckNm n e && decide (g' = g)
  | _ => false
def ckSuE (n y1 g : Str) : Expr → Bool
  | .IfExp t a b _ => ckAnd2 n y1 "ValueError" t && ckXf n g a && ckNone b
  | _ => false
def ckSu (n y1 g : Str) : List Stmt → Bool
  | [.Return (some e) _] => ckSuE n y1 g e
  | _ => false
theorem ckIsi_of {n y : Str} {e : Expr} (h : ckIsi n y e = true) : ∃ p1 p2 p3 p4, e = .Call (.Name "isinstance" p1) [.Name n p2, .Name y p3] [] p4 := by
  unfold ckIsi at h
  split at h
  · simp only [Bool.and_eq_true, decide_eq_true_eq] at h
    obtain ⟨⟨rfl, rfl⟩, rfl⟩ := h
    exact ⟨_, _, _, _, rfl⟩
  · cases h
theorem ckAnd2_of {n y1 y2 : Str} {e : Expr} (h : ckAnd2 n y1 y2 e = true) : ∃ a b p, e = .BoolOp .And [a, b] p ∧ ckIsi n y1 a = true ∧ ckIsi n y2 b = true := by
  unfold ckAnd2 at h
  split at h
  · rw [Bool.and_eq_true] at h
    exact ⟨_, _, _, rfl, h⟩
  · cases h
theorem ckNm_of {n : Str} {e : Expr} (h : ckNm n e = true) : ∃ p, e = .Name n p := by
  unfold ckNm at h
  split at h
  · rw [of_decide_eq_true h]; exact ⟨_, rfl⟩
  · cases h
theorem ckNone_of {e : Expr} (h : ckNone e = true) : ∃ j p, e = .Constant .none j p := by
  unfold ckNone at h
  split at h
  · exact ⟨_, _, rfl⟩
  · cases h
theorem ckXf_of {n g : Str} {e : Expr} (h : ckXf n g e = true) : ∃ p1 p2, e = .Attribute (.Name n p1) g p2 := by
  unfold ckXf at h
  split at h
  · simp only [Bool.and_eq_true, decide_eq_true_eq] at h
    obtain ⟨h1, rfl⟩ := h
    obtain ⟨p, rfl⟩ := ckNm_of h1
    exact ⟨_, _, rfl⟩
  · cases h
theorem ckSu_of {n y1 g : Str} {su : List Stmt} (h : ckSu n y1 g su = true) : ∃ t a b p1 p2, su = [.Return (some (.IfExp t a b p1)) p2] ∧ ckAnd2 n y1 "ValueError" t = true ∧ ckXf n g a = true ∧ ckNone b = true := by
  unfold ckSu at h
  split at h
  · unfold ckSuE at h
    split at h
    · simp only [Bool.and_eq_true] at h
      obtain ⟨⟨h1, h2⟩, h3⟩ := h
      exact ⟨_, _, _, _, _, rfl, h1, h2, h3⟩
    · cases h
  · cases h
end
section
open PySem PySem.Spec PySem.W PySem.Calls PyProof.Rows
/-- what the written part says of the class and its `__init__` -/
structure XInit (P : Program) (K : Frag) (C fI : Addr) (qual slf p fld : Str) : Prop where
  cls : ∃ nm q N bs bm sn sub ab col dd k0 k1 k2 k3 k5, K.lookup C = some (excClassObj nm q C N bs bm true sn sub ab col dd k0 k1 k2 k3 k5 "ValueError.__new__") ∧ PySem.HandSPX.refsVE bm = true ∧ alongIn K "__init__" bm = some (some (.builtin "ValueError.__init__"))
  sa : findIn K (.ref C) "__setattr__" = some (some (.builtin "object.__setattr__"))
  noat : findIn K (.ref C) fld = some none
  sub : subIn K (.ref C) (.type "ValueError") = some true
  opq : nsIn K cStatics "thirdparty.any" = some none
  sup : nsIn K mainGlobals "super" = some none
  sup2 : (P.main.scope.names.lookup ("super" : Str)).isSome = false
  fn : ∃ oc od osl name params scope dV kV doc pm an cda ct cc p1 p2 p3 p4 p5 p6 p7 p8 p9 p10, K.lookup fI = some ⟨oc, od, .func (ksFn name qual params
      [.Expr (.Call (.Attribute (.Call (.Name "super" p1) [] [] p2) "__init__" p3) [.Name p p4] [] p5) p6, .Assign [.Attribute (.Name slf p7) fld p8] (.Name p p9) p10] scope dV kV doc pm an (.ref cda) ct cc), osl⟩
    ∧ codeIn K (.ref cda) qual = true ∧ (∃ ccl cdd vs ccs file tf, K.lookup cda = some ⟨ccl, cdd, .fields vs, ccs⟩ ∧ vs[2]? = some (.str file tf) ∧ ((P.main.file : Str) == file) = true)
    ∧ (∃ cl cld csl, K.lookup cc = some ⟨cl, cld, .cell (some (.ref C)), csl⟩) ∧ dV = .none ∧ (∃ a1 a2, params = ⟨[], [a1, a2], none, [], [], none, []⟩ ∧ a1.arg = slf ∧ a2.arg = p)
    ∧ scope.names.lookup ("super" : Str) = some .globalImplicit ∧ scope.names.lookup ("__class__" : Str) = some .free ∧ scope.names.lookup slf = some .local ∧ scope.names.lookup p = some .local
    ∧ (∀ x ∈ scope.names, x.2 ≠ .cell) ∧ scope.isCoroutine = false ∧ scope.isGenerator = false ∧ scope.kind = .function
    ∧ (p3.endLine == p5.line) = true
  ne : slf ≠ p
  d1 : (slf == ("__debug__" : Str)) = false
  d2 : (p == ("__debug__" : Str)) = false
  d3 : (slf == ("__classdict__" : Str)) = false
  d4 : (p == ("__classdict__" : Str)) = false
end
section
open PySem PySem.Spec PyProof.Rows L2
/-- what is known of an own exception class -/
structure XcC (P : Program) (K : PySem.W.Frag) (mg : Str → Option Value) (c f : Nat) : Prop where
  lt : f < 1104
  glo : mg (nm c) = some (.ref (He.ga K (nm c)))
  init : ∃ fI qual slf p, XInit P K (He.ga K (nm c)) fI qual slf p (nm f) ∧ PySem.W.findIn K (.ref (He.ga K (nm c))) "__init__" = some (some (.ref fI)) ∧ PySem.W.typeIn K (.ref fI) = some (.type "function")
  exC : PySem.W.subIn K (.ref (He.ga K (nm c))) (.type "BaseException") = some true
  tyC : PySem.W.typeIn K (.ref (He.ga K (nm c))) = some (.type "type")
  kC : PySem.W.keepIn K (.ref (He.ga K (nm c))) = true
  xf : XfC K (He.ga K (nm c))
  is : ExcC K (He.ga K (nm c))
  ve : PySem.W.kitOne K (.ref (He.ga K (nm c))) (.type "ValueError") = some true
/-- what is known of an except clause's class: which of the exceptions it takes -/
structure XhC (K : PySem.W.Frag) (mg : Str → Option Value) (exc : List (Nat × Nat)) (h : Nat) (subs : List Nat) : Prop where
  glo : mg (nm h) = some (.ref (He.ga K (nm h)))
  sub : ∀ c f, exc.lookup c = some f → PySem.W.exmOne K (.ref (He.ga K (nm c))) (.ref (He.ga K (nm h))) = some (subs.contains c) ∧ PySem.W.kitOne K (.ref (He.ga K (nm c))) (.ref (He.ga K (nm h))) = some (subs.contains c)
/-- a module's dict with texts as keys -/
structure DicK (K : PySem.W.Frag) (w : World) (mg : Str → Option Value) (g : Nat) (kvs : List (List Nat × D)) : Prop where
  glo : mg (nm g) = some (.ref (He.ga K (nm g)))
  kd : ∃ es n, KDict K w (He.ga K (nm g)) es n
  val : ∀ s d, kvs.lookup s = some d → ∃ u v, PySem.W.nsIn K (He.ga K (nm g)) ⟨s.toArray⟩ = some (some u) ∧ RelV v u ∧ ∀ H io, Rep K H io d v
  non : ∀ s, kvs.lookup s = none → PySem.W.nsIn K (He.ga K (nm g)) ⟨s.toArray⟩ = some none
end
end Mi

set_option maxRecDepth 100000
set_option maxHeartbeats 4000000
namespace Mi
open PySem PySem.Spec L2

/-! ### weakening -/
section
variable {X : Cx}
theorem PEimp {e : Expr} {t t' : TE} (h : PE X e t) (i : ∀ σ H Q, t' σ H Q → t σ H Q) : PE X e t' := ⟨fun pins s σ H Q I w => h.run pins s σ H Q I (i _ _ _ w)⟩
theorem PTimp {e : Expr} {t t' : TT} (h : PT X e t) (i : ∀ σ H Q, t' σ H Q → t σ H Q) : PT X e t' := ⟨fun pins s σ H Q I w => h.run pins s σ H Q I (i _ _ _ w)⟩
theorem PWimp {e : Expr} {t t' : TT} (h : PW X e t) (i : ∀ σ H Q, t' σ H Q → t σ H Q) : PW X e t' := ⟨fun wh pins s σ H Q I w => h.run wh pins s σ H Q I (i _ _ _ w)⟩
theorem PAimp {e : List Expr} {t t' : TA} (h : PA X e t) (i : ∀ σ H Q, t' σ H Q → t σ H Q) : PA X e t' := ⟨fun pos pins s σ H Q I w => h.run pos pins s σ H Q I (i _ _ _ w)⟩
theorem POimp {e : Option Expr} {t t' : TO} (h : PO X e t) (i : ∀ σ H Q, t' σ H Q → t σ H Q) : PO X e t' := ⟨fun pins s σ H Q I w => h.run pins s σ H Q I (i _ _ _ w)⟩
theorem PIimp {tg iter : Expr} {t t' : TI} (h : PI X tg iter t) (i : ∀ σ H R, t' σ H R → t σ H R) : PI X tg iter t' := ⟨fun pins s σ H Q I w => h.run pins s σ H Q I (i _ _ _ w)⟩
theorem PSimp {e : Stmt} {t t' : TS} (h : PS X e t) (i : ∀ D σ H, t' D σ H → t D σ H) : PS X e t' := ⟨fun pins s σ H Q I w => h.run pins s σ H Q I (i _ _ _ w)⟩
theorem PSsimp {e : List Stmt} {t t' : TS} (h : PSs X e t) (i : ∀ D σ H, t' D σ H → t D σ H) : PSs X e t' := ⟨fun pins s σ H Q I w => h.run pins s σ H Q I (i _ _ _ w)⟩
end
theorem Post.shut {K : PySem.W.Frag} {io : Io} {H : Hp} {W W' : XK} {α β : Type} {Rp : Hp → Io → α → β → Prop} {r : R α} {Q : β → Hp → Prop} (p : Post K io H W Rp (shut r) Q) : Post K io H W' Rp r Q := by
  cases r with
  | ok a st => exact p
  | exc x st => exact p.elim
  | bad => exact p.elim
/-- a reading by what the small language answers -/
def tG (K : PySem.W.Frag) (W : WX) {α β : Type} (Rp : Hp → Io → α → β → Prop) (m : En → Sto → R α) : St → Hp → (β → Hp → Prop) → Prop :=
  fun σ H Q => ∃ en st io, EnvR K H io en σ ∧ StOk K H io st ∧ Post K io H (fun c d H' => W c d σ H') Rp (m en st) Q
abbrev RpO : Hp → Io → Option Int → Option Int → Prop := fun _ _ d v => d = v
theorem tE_eq {K : PySem.W.Frag} {W : WX} {m : En → Sto → R D} : tE K W m = tG K W (RpD K) m := rfl
theorem tT_eq {K : PySem.W.Frag} {W : WX} {m : En → Sto → R Bool} : tT K W m = tG K W RpB m := rfl
theorem tA_eq {K : PySem.W.Frag} {W : WX} {m : En → Sto → R (List D)} : tA K W m = tG K W (RpL K) m := rfl
abbrev tO (K : PySem.W.Frag) (W : WX) (m : En → Sto → R (Option Int)) : TO := tG K W RpO m
section
variable {K : PySem.W.Frag} {W : WX} {α β α' β' α'' β'' : Type} {Rp : Hp → Io → α → β → Prop} {Rp' : Hp → Io → α' → β' → Prop} {Rp'' : Hp → Io → α'' → β'' → Prop}
/-- one step -/
theorem tG.step {m : En → Sto → R α} {f : En → α → Sto → R α'} {σ : St} {H : Hp} {Q : β' → Hp → Prop} (h : tG K W Rp' (fun en st => (m en st).bind fun x st => f en x st) σ H Q) :
    tG K W Rp m σ H fun v H1 => ∃ en d io1 st1, EnvR K H1 io1 en σ ∧ StOk K H1 io1 st1 ∧ Rp H1 io1 d v ∧ Post K io1 H1 (fun c d H' => W c d σ H') Rp' (f en d st1) Q := by
  obtain ⟨en, st, io, er, so, p⟩ := h
  exact ⟨en, st, io, er, so, (Post.bind (Rp := Rp) p).mono fun v H1 ⟨d, io1, st1, x, s1, r, p1⟩ => ⟨en, d, io1, st1, er.ext x, s1, r, p1⟩⟩
/-- two steps, the first value carried -/
theorem tG.step2 {m : En → Sto → R α} {m2 : En → Sto → R α'} {f : En → α → α' → Sto → R α''} {σ : St} {H : Hp} {Q : β'' → Hp → Prop} (hx : ∀ {H1 H2 : Hp} {io1 io2 : Io} {d : α} {v : β}, Ext io1 H1 io2 H2 → Rp H1 io1 d v → Rp H2 io2 d v)
    (h : tG K W Rp'' (fun en st => (m en st).bind fun x st => (m2 en st).bind fun y st => f en x y st) σ H Q) :
    tG K W Rp m σ H fun v H1 => tG K W Rp' m2 σ H1 fun u H2 => ∃ en d e io2 st2, EnvR K H2 io2 en σ ∧ StOk K H2 io2 st2 ∧ Rp H2 io2 d v ∧ Rp' H2 io2 e u ∧ Post K io2 H2 (fun c d H' => W c d σ H') Rp'' (f en d e st2) Q := by
  obtain ⟨en, st, io, er, so, p⟩ := h
  refine ⟨en, st, io, er, so, (Post.bind (Rp := Rp) p).mono fun v H1 ⟨d, io1, st1, x, s1, r, p1⟩ => ?_⟩
  exact ⟨en, st1, io1, er.ext x, s1, (Post.bind (Rp := Rp') p1).mono fun u H2 ⟨e, io2, st2, x2, s2, r2, p2⟩ => ⟨en, d, e, io2, st2, (er.ext x).ext x2, s2, hx x2 r, r2, p2⟩⟩
theorem tG.mono {m : En → Sto → R α} {σ : St} {H : Hp} {Q Q' : β → Hp → Prop} (h : tG K W Rp m σ H Q) (i : ∀ v H, Q v H → Q' v H) : tG K W Rp m σ H Q' := by
  obtain ⟨en, st, io, er, so, p⟩ := h
  exact ⟨en, st, io, er, so, p.mono i⟩
theorem tG.imp {m m' : En → Sto → R α} {σ : St} {H : Hp} {Q : β → Hp → Prop} (h : tG K W Rp m σ H Q) (i : ∀ en st, m en st = m' en st) : tG K W Rp m' σ H Q := by
  obtain ⟨en, st, io, er, so, p⟩ := h
  exact ⟨en, st, io, er, so, by rw [← i]; exact p⟩
end

/-! ### an own def's promise -/
structure RoomG (k : Nat) (A : Around) : Prop where
  room : Room k A
  gd : A.guards = some []
theorem RoomG.deeper {k : Nat} {A : Around} (r : RoomG (k + 1) A) (env : Env) : RoomG k (A.deeper env) := ⟨r.room.deeper env, r.gd⟩
theorem RoomG.mono {j k : Nat} {A : Around} (r : RoomG k A) (h : j ≤ k) : RoomG j A := ⟨r.room.mono h, r.gd⟩
/-- how the arguments are given: by place, or the one of them by name -/
inductive Given (ps : List Str) (us : List Value) : Args → Prop where
  | pl : Given ps us ⟨us, []⟩
  | kw {p : Str} {u : Value} (hp : ps = [p]) (hu : us = [u]) : Given ps us ⟨[], [(p, u)]⟩
/-- the def at f computes m -/
structure FnG (P : Program) (w : World) (K : PySem.W.Frag) (mg : Str → Option Value) (base : Heap) (k : Nat) (f : Addr) (ps : List Str) (m : List D → Sto → R D) : Prop where
  run : ∀ (A : Around) (outer : List Env) (s : Shared) (H : Hp) (args : Args) (us : List Value) (vs : List V) (ds : List D) (st : Sto) (io : Io) (Q : VK) (E : XK), RoomG k A → Env0 P w K mg base A outer s H →
    Given ps us args → Vals vs us → StOk K H io st → RepL K H io ds vs → Post K io H E (RpD K) (m ds st) Q →
    codeAny (model P w) A (.call (.ref f) args) (CR (L2.CX P w) outer P w H s Q E) s
theorem FnG.mono {P : Program} {w : World} {K : PySem.W.Frag} {mg : Str → Option Value} {base : Heap} {j k : Nat} {f : Addr} {ps : List Str} {m : List D → Sto → R D} (F : FnG P w K mg base j f ps m) (h : j ≤ k) : FnG P w K mg base k f ps m :=
  ⟨fun A outer s H args us vs ds st io Q E hr => F.run A outer s H args us vs ds st io Q E (hr.mono h)⟩
/-- where a def stands: a module's def by its number, a class's method by class * 10000 + name, a property's getter by 5000 more -/
def pgA (K : PySem.W.Frag) (C : Addr) (m : Str) : Addr := match PySem.W.recIn K (He.ma K C m) "property" with
  | some (.ref g :: _) => g
  | _ => 0
def fnA (K : PySem.W.Frag) (f : Nat) : Addr := if f < 10000 then He.ga K (nm f) else if f % 10000 < 5000 then He.ma K (He.ga K (nm (f / 10000))) (nm (f % 10000)) else pgA K (He.ga K (nm (f / 10000))) (nm (f % 10000 - 5000))
structure FnAt (mg : Str → Option Value) (K : PySem.W.Frag) (f : Nat) : Prop where
  glo : f < 10000 → mg (nm f) = some (.ref (He.ga K (nm f))) ∧ PySem.W.keepIn K (.ref (He.ga K (nm f))) = true
  met : 10000 ≤ f → f % 10000 < 5000 → f % 10000 ≠ 272 → Cls K (He.ga K (nm (f / 10000))) ∧ Meth K (He.ga K (nm (f / 10000))) (nm (f % 10000)) (He.ma K (He.ga K (nm (f / 10000))) (nm (f % 10000)))
  mkr : 10000 ≤ f → f % 10000 = 272 → mg (nm (f / 10000)) = some (.ref (He.ga K (nm (f / 10000)))) ∧ Mk K (He.ga K (nm (f / 10000))) (He.ma K (He.ga K (nm (f / 10000))) (nm (f % 10000)))
  prp : 10000 ≤ f → 5000 ≤ f % 10000 → Cls K (He.ga K (nm (f / 10000))) ∧ PropOf K (He.ga K (nm (f / 10000))) (nm (f % 10000 - 5000)) (He.ma K (He.ga K (nm (f / 10000))) (nm (f % 10000 - 5000))) (fnA K f)
/-- a tuple's iterator, at its start -/
def ItT (t it : Addr) : HO := .ext fun h => h.IsTupleIter it t 0
/-- the class c (a number) has an `__iter__` that tells the iterator of the tuple in its field F -/
structure ItrG (P : Program) (w : World) (K : PySem.W.Frag) (mg : Str → Option Value) (base : Heap) (c F : Nat) : Prop where
  lt : F < 1104
  ex : ∃ f, PySem.W.findIn K (.ref (He.ga K (nm c))) "__iter__" = some (some (.ref f)) ∧ PySem.W.isFn K (.ref f) = true ∧
    ∀ (A : Around) (outer : List Env) (s : Shared) (H : Hp) (a dx t : Addr) (fs : List (Str × V)) (xs : List V) (Q : VK) (E : XK), RoomG 1 A → Env0 P w K mg base A outer s H → H a = some (.ins (He.ga K (nm c)) dx fs) → fs.lookup (nm F) = some (.ref t) → SqT K H t xs →
      (∀ it, H it = none → s.heap.objs.size ≤ it → Q (.ref it) (upd H it (ItT t it))) → codeAny (model P w) A (.call (.ref f) ⟨[.ref a], []⟩) (CR (L2.CX P w) outer P w H s Q E) s
/-- what a def's body leans on -/
structure Good (G : Gs) (C : Call) (X : Cx) (W : WX) : Prop where
  calm : X.calm = true
  nd : X.N.Nodup
  kind : X.env.scope.kind = .function
  lev : ∃ k, RoomG (k + 1) X.A ∧ ∀ f ps, G.fns.lookup f = some ps → FnAt X.mg X.K f ∧ FnG X.prog X.w X.K X.mg X.base k (fnA X.K f) ps (C f)
  fld : FldOk X.K G.F
  no : ∀ x ∈ G.no, X.mg x = none
  glo : ∀ x d, G.glo.lookup x = some d → ∃ u v, X.mg (nm x) = some u ∧ RelV v u ∧ ∀ H io, Rep X.K H io d v
  tk : Takes X W
  sysm : SysD X.K
  itr : ∀ c f, G.itr.lookup c = some f → ItrG X.prog X.w X.K X.mg X.base c f
  exc : ∀ c f, G.exc.lookup c = some f → XcC X.prog X.K X.mg c f
  exh : ∀ h subs, G.exh.lookup h = some subs → XhC X.K X.mg G.exc h subs
  dic : ∀ x l, G.dic.lookup x = some l → DicK X.K X.w X.mg x l
section
variable {G : Gs} {C : Call} {X : Cx} {W : WX} {k : Nat} {f : Addr} {m : List D → Sto → R D} {x : Str} {p pos : Pos} {e : Expr} {es : List Expr} {ps : List Str}
theorem Good.hu (g : Good G C X W) : X.A.units + 64 < cLine := let ⟨_, r, _⟩ := g.lev; r.room.units
theorem Good.glo_ (g : Good G C X W) : ∃ k, RoomG k X.A ∧ ∀ f ps, f < 10000 → G.fns.lookup f = some ps → X.mg (nm f) = some (.ref (He.ga X.K (nm f))) ∧ PySem.W.keepIn X.K (.ref (He.ga X.K (nm f))) = true ∧ FnG X.prog X.w X.K X.mg X.base k (He.ga X.K (nm f)) ps (C f) := by
  obtain ⟨k, r, h⟩ := g.lev
  refine ⟨k, r.mono (Nat.le_succ k), fun f ps hl hf => ?_⟩
  obtain ⟨a, F⟩ := h f ps hf
  unfold fnA at F
  rw [if_pos hl] at F
  exact ⟨(a.glo hl).1, (a.glo hl).2, F⟩
theorem Good.gd (g : Good G C X W) : X.A.guards = some [] := let ⟨_, r, _⟩ := g.lev; r.gd
/-- the callee runs -/
theorem run_fnG {pins : List (Addr × Obj)} {σ : St} {H : Hp} {s : Shared} {Q : VK} {args : Args} {us : List Value} {vs : List V} {ds : List D} {st : Sto} {io : Io} (F : FnG X.prog X.w X.K X.mg X.base k f ps m) (hr : RoomG k X.A) (tk : Takes X W)
    (I : Inv X pins σ H s) (hg : Given ps us args) (r : Vals vs us) (so : StOk X.K H io st) (rl : RepL X.K H io ds vs) (h : Post X.K io H (fun c d H' => W c d σ H') (RpD X.K) (m ds st) Q) :
    codeAny (model X.prog X.w) X.A (.call (.ref f) args) (fun r s' => match r with
      | .ok (.ret u) => EP X pins σ Q u s'
      | .ok _ => False
      | .error e => X.xe e s') s := by
  refine codeAny_mono (F.run X.A X.stack s H args us vs ds st io Q _ hr I.env0 hg r so rl h) fun r s' hq => ?_
  cases r with
  | error e => exact passAt tk σ pins H s e s' I hq
  | ok fl =>
    cases fl with
    | ret u => exact I.after hq
    | next => exact False.elim hq
    | brk => exact False.elim hq
    | cont => exact False.elim hq
theorem call_fnG {pins : List (Addr × Obj)} {σ : St} {H : Hp} {s : Shared} {Q : VK} {us : List Value} {vs : List V} {ds : List D} {st : Sto} {io : Io} (F : FnG X.prog X.w X.K X.mg X.base k f ps m) (hr : RoomG k X.A) (tk : Takes X W)
    (I : Inv X pins σ H s) (r : Vals vs us) (so : StOk X.K H io st) (rl : RepL X.K H io ds vs) (h : Post X.K io H (fun c d H' => W c d σ H') (RpD X.K) (m ds st) Q) :
    wpAny (model X.prog X.w) X.A (call (.ref f) us) (EP X pins σ Q) X.xe s := by
  refine wpAny_call (codeAny_mono (run_fnG F hr tk I .pl r so rl h) fun r s' hq => ?_)
  cases r with
  | error e => exact hq
  | ok fl =>
    cases fl with
    | ret u => exact hq
    | next => exact False.elim hq
    | brk => exact False.elim hq
    | cont => exact False.elim hq
/-- what a call wants -/
def wC (K : PySem.W.Frag) (W : WX) (m : List D → Sto → R D) (σ : St) (vs : List V) (H : Hp) (Q : VK) : Prop := ∃ ds st io, StOk K H io st ∧ RepL K H io ds vs ∧ Post K io H (fun c d H' => W c d σ H') (RpD K) (m ds st) Q
theorem pe_callG {t : TA} (F : FnG X.prog X.w X.K X.mg X.base k f ps m) (hr : RoomG k X.A) (tk : Takes X W) (hg : Gl X x) (hm : X.mg x = some (.ref f)) (hk : PySem.W.keepIn X.K (.ref f) = true) (ha : PA X (e :: es) t)
    (hdb : (x == ("__debug__" : Str)) = false) (he : starEach (e :: es) X.env = (false, eval e X.env) :: starEach es X.env) (hpl : (backTo pos (starEach es X.env)).any (·.1) = false) :
    PE X (.Call (.Name x p) (e :: es) [] pos) (fun σ H Q => t σ H fun vs H1 => wC X.K W m σ vs H1 Q) := by
  refine ⟨fun pins s σ H Q I h => ?_⟩
  refine wpAny_Call_Name_kw (ld_glob I hg hm ?_ hdb)
  refine PySem.W.callWith_K (h₀ := X.base) I.ok.mod.kin hk (thn (ha.run pos pins s σ H _ I h) fun us s1 ⟨vs, H1, I1, r, ds, st, io, so, rl, q⟩ => ⟨I1.kIn, ?_⟩) he hpl
  exact call_fnG F hr tk I1 r so rl q
theorem pe_callG0 (F : FnG X.prog X.w X.K X.mg X.base k f ps m) (hr : RoomG k X.A) (tk : Takes X W) (hg : Gl X x) (hm : X.mg x = some (.ref f)) (hk : PySem.W.keepIn X.K (.ref f) = true)
    (hdb : (x == ("__debug__" : Str)) = false) :
    PE X (.Call (.Name x p) [] [] pos) (fun σ H Q => wC X.K W m σ [] H Q) := by
  refine ⟨fun pins s σ H Q I h => ?_⟩
  obtain ⟨ds, st, io, so, rl, q⟩ := h
  refine wpAny_Call_Name_kw (ld_glob I hg hm ?_ hdb)
  exact PySem.W.callWith_K0 I.kIn hk (call_fnG (us := []) F hr tk I .nil so rl q)
/-- a def in a local name -/
theorem pe_callVG {i : Nat} {t : TA} (hr : RoomG k X.A) (tk : Takes X W) (hN : X.N[i]? = some x) (hv : Vis X.env.scope x) (ha : PA X (e :: es) t)
    (hdb : (x == ("__debug__" : Str)) = false) (hcd : (x == ("__classdict__" : Str)) = false) (he : starEach (e :: es) X.env = (false, eval e X.env) :: starEach es X.env) (hpl : (backTo pos (starEach es X.env)).any (·.1) = false) :
    PE X (.Call (.Name x p) (e :: es) [] pos) (fun σ H Q => ∃ f ps m, σ[i]? = some (some (.ref f)) ∧ FnG X.prog X.w X.K X.mg X.base k f ps m ∧ PySem.W.keepIn X.K (.ref f) = true ∧ t σ H fun vs H1 => wC X.K W m σ vs H1 Q) := by
  refine ⟨fun pins s σ H Q I h => ?_⟩
  obtain ⟨f, ps, m, hs, F, hk, ht⟩ := h
  refine wpAny_Call_Name_kw (thn ((pe_var (pos := p) hN hv hdb hcd).run pins s σ H (fun v H1 => v = .ref f ∧ H1 = H) I ⟨.ref f, hs, rfl, rfl⟩) fun u s1 ⟨v, H1, I1, r1, q1⟩ => ?_)
  obtain ⟨rfl, rfl⟩ := q1
  cases r1
  refine PySem.W.callWith_K (h₀ := X.base) I.ok.mod.kin hk (thn (ha.run pos pins s1 σ _ _ I1 ht) fun us s2 ⟨vs, H2, I2, r, ds, st, io, so, rl, q⟩ => ⟨I2.kIn, ?_⟩) he hpl
  exact call_fnG F hr tk I2 r so rl q
/-- f(name=e) -/
theorem pe_callKG {nm : Str} {kpos : Pos} {te : TE} (F : FnG X.prog X.w X.K X.mg X.base k f [nm] m) (hr : RoomG k X.A) (tk : Takes X W) (hg : Gl X x) (hm : X.mg x = some (.ref f)) (hk : PySem.W.keepIn X.K (.ref f) = true) (ha : PE X e te)
    (hdb : (x == ("__debug__" : Str)) = false) :
    PE X (.Call (.Name x p) [] [⟨some nm, e, kpos⟩] pos) (fun σ H Q => te σ H fun v H1 => wC X.K W m σ [v] H1 Q) := by
  refine ⟨fun pins s σ H Q I h => ?_⟩
  refine wpAny_Call_Name_kw (ld_glob I hg hm ?_ hdb)
  refine PySem.W.callWith_KW0 (h₀ := X.base) I.ok.mod.kin hk rfl ?_
  show wpAny _ _ (evalAll ((do let v ← eval e X.env; standAt pos; pure v) :: [])) _ _ s
  refine wpAny_evalAll_cons (wpAny_bind (thn (ha.run pins s σ H _ I h) fun u s1 ⟨x1, H1, I1, r1, ds, st, io, so, rl, q⟩ => wpAny_bind (wpAny_standAt (wpAny_pure (wpAny_evalAll_nil ⟨I1.kIn, ?_⟩)))))
  show wpAny _ _ (call (.ref f) [] ([nm].zip [u])) _ _ _
  refine wpAny_call (codeAny_mono (run_fnG F hr tk I1 (.kw rfl rfl) (.cons r1 .nil) so rl q) fun r s' hq => ?_)
  cases r with
  | error e => exact hq
  | ok fl =>
    cases fl with
    | ret u => exact hq
    | next => exact False.elim hq
    | brk => exact False.elim hq
    | cont => exact False.elim hq
end
end Mi

set_option maxRecDepth 100000
set_option maxHeartbeats 4000000
namespace Mi
open PySem PySem.Spec L2

/-! ### walks -/
/-- the walk J gives ds, whatever becomes of the store -/
structure Yl (K : PySem.W.Frag) (J : It) (ds : List D) (io : Io) (H : Hp) : Prop where
  go : ∀ (io' : Io) (H' : Hp) (i : Nat), Mv io H io' H' → i < ds.length → J.go i H'
  stop : ∀ (io' : Io) (H' : Hp), Mv io H io' H' → J.stop ds.length H'
  yld : ∀ (io' : Io) (H' : Hp) (st : Sto) (i : Nat) (d : D) (x : V) (H'' : Hp), Mv io H io' H' → StOk K H' io' st → ds[i]? = some d → J.yld i H' x H'' → Ext io' H' io' H'' ∧ StOk K H'' io' st ∧ Rep K H'' io' d x
def RpY (K : PySem.W.Frag) : Hp → Io → List D → It → Prop := fun H io ds J => Yl K J ds io H
def iI (K : PySem.W.Frag) (W : WX) (m : En → Sto → R (List D)) : TI := tG K W (RpY K) m
def ofL {α : Type} (o : Option (List α)) (st : Sto) : R (List α) := match o with
  | some xs => .ok xs st
  | none => .bad
section
variable {K : PySem.W.Frag} {io : Io} {H : Hp} {a b : Addr} {ds es : List D} {xs ys : List V} {X : Cx} {pins : List (Addr × Obj)} {σ : St} {s : Shared} {tg : Expr} {R : It → Hp → Prop} {E : Value → Shared → Prop}
theorem yl_list (hs : ∀ io' H', Mv io H io' H' → SqL K H' a xs) (r : RepL K H io ds xs) : Yl K (Itl K a) ds io H where
  go := fun io' H' i x hi => ⟨xs, xs[i]'(by rw [← r.len]; exact hi), hs io' H' x, List.getElem?_eq_getElem _⟩
  stop := fun io' H' x => ⟨xs, hs io' H' x, by rw [r.len]; exact Nat.le_refl _⟩
  yld := fun io' H' st i d v H'' x so hd y => by
    obtain ⟨rfl, y⟩ := y
    obtain ⟨u, hu, ru⟩ := (RepL.mv x _ _ r).at hd
    have e := y xs (hs io' _ x)
    rw [hu] at e
    cases e
    exact ⟨Ext.refl _ _, so, ru⟩
theorem yl_tup (hs : ∀ io' H', Mv io H io' H' → SqT K H' a xs) (r : RepL K H io ds xs) : Yl K (Itt K a) ds io H where
  go := fun io' H' i x hi => ⟨xs, xs[i]'(by rw [← r.len]; exact hi), hs io' H' x, List.getElem?_eq_getElem _⟩
  stop := fun io' H' x => ⟨xs, hs io' H' x, by rw [r.len]; exact Nat.le_refl _⟩
  yld := fun io' H' st i d v H'' x so hd y => by
    obtain ⟨rfl, y⟩ := y
    obtain ⟨u, hu, ru⟩ := (RepL.mv x _ _ r).at hd
    have e := y xs (hs io' _ x)
    rw [hu] at e
    cases e
    exact ⟨Ext.refl _ _, so, ru⟩
theorem yl_range {lo : Int} {n : Nat} : Yl K (Itr lo n) ((List.range n).map fun i : Nat => .int (lo + (i : Int))) io H where
  go := fun io' H' i x hi => by
    show i < n
    simpa using hi
  stop := fun io' H' x => by show n ≤ _; simp
  yld := fun io' H' st i d v H'' x so hd y => by
    obtain ⟨rfl, rfl⟩ := y
    rw [List.getElem?_map] at hd
    by_cases h : i < n
    · rw [List.getElem?_range h] at hd
      cases hd
      exact ⟨Ext.refl _ _, so, rfl⟩
    · rw [List.getElem?_eq_none (by simpa using h)] at hd
      cases hd
theorem yl_text {t : List Nat} : Yl K (Its ⟨t.toArray⟩) (t.map fun c => .str [c]) io H where
  go := fun io' H' i x hi => by
    show i < t.toArray.size
    simpa using hi
  stop := fun io' H' x => by
    show t.toArray.size ≤ _
    simp
  yld := fun io' H' st i d v H'' x so hd y => by
    obtain ⟨rfl, c, hc, rfl⟩ := y
    rw [List.getElem?_map] at hd
    have hc' : t[i]? = some c := by simpa using hc
    rw [hc'] at hd
    cases hd
    exact ⟨Ext.refl _ _, so, rfl⟩
theorem yl_zip (hs : ∀ io' H', Mv io H io' H' → SqT K H' a xs) (hs2 : ∀ io' H', Mv io H io' H' → SqT K H' b ys) (r : RepL K H io ds xs) (r2 : RepL K H io es ys) : Yl K (RZ.ItzT K a b) ((ds.zip es).map fun p => .tup [p.1, p.2]) io H where
  go := fun io' H' i x hi => by
    have hi' : i < ds.length ∧ i < es.length := by simpa [List.length_zip, Nat.lt_min] using hi
    exact ⟨xs, ys, xs[i]'(by rw [← r.len]; exact hi'.1), ys[i]'(by rw [← r2.len]; exact hi'.2), hs _ _ x, hs2 _ _ x, List.getElem?_eq_getElem _, List.getElem?_eq_getElem _⟩
  stop := fun io' H' x => ⟨xs, ys, hs _ _ x, hs2 _ _ x, by
    rw [← r.len, ← r2.len, List.length_map, List.length_zip]
    omega⟩
  yld := fun io' H' st i d v H'' x so hd y => by
    obtain ⟨T, x', y', rfl, hT, rfl, f1, f2⟩ := y
    rw [List.getElem?_map] at hd
    cases e1 : (ds.zip es)[i]? with
    | none => rw [e1] at hd; cases hd
    | some p =>
      rw [e1] at hd
      cases hd
      obtain ⟨d1, d2⟩ := p
      rw [List.getElem?_zip_eq_some] at e1
      obtain ⟨u, hu, ru⟩ := (RepL.mv x _ _ r).at e1.1
      obtain ⟨u2, hu2, ru2⟩ := (RepL.mv x _ _ r2).at e1.2
      have g1 := f1 xs (hs _ _ x)
      have g2 := f2 ys (hs2 _ _ x)
      rw [hu] at g1; rw [hu2] at g2
      cases g1; cases g2
      have xx := Ext.fresh so hT (.tup [x', y'])
      exact ⟨xx, so.fresh hT _, ⟨T, _, rfl, upd_same, .cons (Rep.ext xx _ _ ru) (.cons (Rep.ext xx _ _ ru2) .nil)⟩⟩
/-- the iterators -/
theorem it_list (I : Inv X pins σ H s) (hq : SqL X.K H a xs) (q : R (Itl X.K a) H) : wpAny (model X.prog X.w) X.A (pyIter (.ref a)) (PIE X pins σ tg R) E s := by
  obtain ⟨its, _, pl, _⟩ := I.list hq
  have fr := I.hok.fresh (Nat.le_refl s.heap.objs.size)
  refine wpAny_pyIter_list pl.isList ⟨_, [s.heap.objs.size], _, _, H, rfl, I.kept (t' := s.toks) (fun _ _ h => Heap.get?_push_of_some _ h), turn_list a s.heap.objs.size, ⟨_, Heap.get?_push_size _ rfl, rfl, rfl⟩, fun c hc => ?_, q⟩
  rw [List.mem_singleton.mp hc]
  exact I.fpOk (Nat.le_refl _) fr
theorem it_tup (I : Inv X pins σ H s) (hq : SqT X.K H a xs) (q : R (Itt X.K a) H) : wpAny (model X.prog X.w) X.A (pyIter (.ref a)) (PIE X pins σ tg R) E s := by
  obtain ⟨its, _, pl, _⟩ := I.tuple hq
  have fr := I.hok.fresh (Nat.le_refl s.heap.objs.size)
  refine wpAny_pyIter_tuple pl ⟨_, [s.heap.objs.size], _, _, H, rfl, I.kept (t' := s.toks) (fun _ _ h => Heap.get?_push_of_some _ h), turn_tuple a s.heap.objs.size, ⟨_, Heap.get?_push_size _ rfl, rfl, rfl⟩, fun c hc => ?_, q⟩
  rw [List.mem_singleton.mp hc]
  exact I.fpOk (Nat.le_refl _) fr
theorem it_text {t : List Nat} {v : Value} (I : Inv X pins σ H s) (r : RelV (.str ⟨t.toArray⟩) v) (q : R (Its ⟨t.toArray⟩) H) : wpAny (model X.prog X.w) X.A (pyIter v) (PIE X pins σ tg R) E s := by
  obtain ⟨tk, rfl⟩ := r
  cases h : (⟨t.toArray⟩ : Str).cps.all (· < 128) with
  | false => exact wpAny_pyIter_wide h (pi_one (tk := s.toks) I _ (turn_str _ _ tk _ (.inr rfl)) ⟨_, Heap.get?_push_size _ rfl, rfl, rfl⟩ q)
  | true => exact wpAny_pyIter_ascii h (pi_one (tk := s.toks) I _ (turn_str _ _ tk _ (.inl rfl)) ⟨_, Heap.get?_push_size _ rfl, rfl, rfl⟩ q)
end
theorem SqL.inj {X : Cx} {pins : List (Addr × Obj)} {σ : St} {H : Hp} {s : Shared} {a : Addr} {xs ys : List V} (I : Inv X pins σ H s) (h : SqL X.K H a xs) (g : SqL X.K H a ys) : ys = xs := I.list_inj g h
section
variable {X : Cx} {W : WX} {tg e : Expr}
theorem pi_seqI {m : En → Sto → R D} (he : PE X e (tE X.K W m)) : PI X tg e (iI X.K W fun en st => (m en st).bind fun d st => ofL (seqS d st) st) := by
  refine ⟨fun pins s σ H R I h => ?_⟩
  refine thn (he.run pins s σ H _ I (tG.step h)) fun u s1 ⟨v, H1, I1, ru, en, d, io, st, er, so, rd, p⟩ => ?_
  have done : ∀ {ds : List D} {J : It}, seqS d st = some ds → Yl X.K J ds io H1 → R J H1 := fun hd y => by
    rw [hd] at p
    exact p _ io H1 (Ext.refl _ _) so y
  cases d with
  | tup ds =>
    obtain ⟨a, xs, rfl, hq, r⟩ := rd
    cases ru
    exact it_tup I1 (.of hq) (done rfl (yl_tup (fun io' H' x => x.sqt (.of hq)) r))
  | tuq ds =>
    obtain ⟨a, xs, rfl, ⟨o, hq, _⟩, r⟩ := rd
    cases ru
    exact it_tup I1 (.inl (.inr ⟨o, hq⟩)) (done rfl (yl_tup (fun io' H' x => .inl (.inr ⟨o, x.frzs _ _ _ hq⟩)) r))
  | lst ds =>
    obtain ⟨a, xs, rfl, hq, r⟩ := rd
    cases ru
    exact it_list I1 (.of hq.1) (done rfl (yl_list (fun io' H' x => .of (x.lst _ _ hq.1 hq.2).1) r))
  | fro ds =>
    obtain ⟨a, xs, rfl, hq, r⟩ := rd
    cases ru
    exact it_list I1 hq.sql (done rfl (yl_list (fun io' H' x => (x.fro hq).sql) r))
  | str t =>
    cases rd
    exact it_text I1 ru (done rfl yl_text)
  | loc n =>
    obtain ⟨a, ea, rfl⟩ := rd
    cases ru
    cases q : st[n]? with
    | none => simp only [seqS, q] at p; exact p.elim
    | some b =>
      cases b with
      | frl ds =>
        obtain ⟨o, xs, e1, r1⟩ := so.ob n a _ ea q
        exact it_list I1 (.inl (.inr ⟨o, e1⟩)) (done (by simp only [seqS, q]) (yl_list (fun io' H' x => .inl (.inr ⟨o, x.frzs _ _ _ e1⟩)) r1))
      | _ => simp only [seqS, q] at p; exact p.elim
  | _ => exact p.elim
/-- the pairs of a locked dict -/
theorem yl_items {K : PySem.W.Frag} {io : Io} {H : Hp} {a : Addr} {o : Obj} {ks : List KeyD} {vs : List D} {xs : List V} (hq : H a = some (.frz o (.dK ((ks.map keyOf).zip xs)))) (hl : ks.length = xs.length) (r : RepL K H io vs xs) :
    Yl K (Iti a o ((ks.map keyOf).zip xs)) ((ks.zip vs).map fun p => .tup [keyV p.1, p.2]) io H where
  go := fun io' H' i x hi => ⟨x.frzs _ _ _ hq, by
    have hi' : i < ks.length ∧ i < vs.length := by simpa [List.length_zip, Nat.lt_min] using hi
    rw [zip_len hl]; exact hi'.1⟩
  stop := fun io' H' x => ⟨x.frzs _ _ _ hq, by
    rw [zip_len hl, List.length_map, List.length_zip, r.len, ← hl, Nat.min_self]
    exact Nat.le_refl _⟩
  yld := fun io' H' st i d v H'' x so hd y => by
    obtain ⟨T, k, z, e1, rfl, hT, rfl⟩ := y
    rw [List.getElem?_map] at hd
    cases e2 : (ks.zip vs)[i]? with
    | none => rw [e2] at hd; cases hd
    | some p =>
      rw [e2] at hd
      cases hd
      obtain ⟨k1, d1⟩ := p
      rw [List.getElem?_zip_eq_some] at e1 e2
      obtain ⟨u, hu, ru⟩ := (RepL.mv x _ _ r).at e2.2
      rw [e1.2] at hu
      cases hu
      have ek : k = keyOf k1 := by
        have z1 := e1.1
        rw [List.getElem?_map, e2.1] at z1
        exact (Option.some.inj z1).symm
      subst ek
      have xx := Ext.fresh so hT (.tup [kV (keyOf k1), z])
      exact ⟨xx, so.fresh hT _, ⟨T, _, rfl, upd_same, .cons (keyV_rep k1) (.cons (Rep.ext xx _ _ ru) .nil)⟩⟩
theorem itsF_at {K : PySem.W.Frag} {io : Io} {H : Hp} {st : Sto} {d : D} {v : V} {ds : List D} (e : itsF d st = some ds) (so : StOk K H io st) (r : Rep K H io d v) : ∃ (a : Addr) (o : Obj) (ks : List KeyD) (vs : List D) (xs : List V), v = .ref a ∧ ds = ((ks.zip vs).map fun p : KeyD × D => .tup [keyV p.1, p.2]) ∧ H a = some (.frz o (.dK ((ks.map keyOf).zip xs))) ∧ ks.length = xs.length ∧ RepL K H io vs xs := by
  cases d <;> simp only [itsF, Option.some.injEq, reduceCtorEq] at e
  · obtain ⟨a, xs, rfl, ⟨o, hq, _⟩, hl, r⟩ := r
    exact ⟨a, o, _, _, xs, rfl, e.symm, hq, hl, r⟩
  · rename_i n
    obtain ⟨a, ea, rfl⟩ := r
    cases q : st[n]? with
    | none => rw [q] at e; cases e
    | some b =>
      rw [q] at e
      cases b <;> simp only [Option.some.injEq, reduceCtorEq] at e
      obtain ⟨o, xs, hq, hl, r⟩ := so.ob n a _ ea q
      exact ⟨a, o, _, _, xs, rfl, e.symm, hq, hl, r⟩
theorem pi_itemsI {m : En → Sto → R D} {elts : List Expr} {kk : Nat} {tpos apos cpos : Pos} (he : PE X e (tE X.K W m)) (hb : attributeBase e "items" X.env (eval e X.env) = eval e X.env) (hl : (apos.endLine == cpos.line) = true) :
    PI X (.Tuple elts kk tpos) (.Call (.Attribute e "items" apos) [] [] cpos) (iI X.K W fun en st => (m en st).bind fun d st => ofL (itsF d st) st) := by
  refine PIimp (pi_items he hb hl) fun σ H R h => (tG.step h).mono fun v H1 ⟨en, d, io, st, er, so, rd, p⟩ => ?_
  cases e : itsF d st with
  | none => rw [e] at p; exact p.elim
  | some ds =>
    rw [e] at p
    obtain ⟨a, o, ks, vs, xs, rfl, rfl, hq, hl, r⟩ := itsF_at e so rd
    exact ⟨a, o, _, rfl, hq, p _ io H1 (Ext.refl _ _) so (yl_items hq hl r)⟩
theorem pi_range1I {a : Expr} {ta : En → Sto → R (List D)} {p pos : Pos} (hg : Gl X "range") (hm : X.mg "range" = none) (ha : PA X [a] (tA X.K W ta)) (hs : starEach [a] X.env = [(false, eval a X.env)]) :
    PI X tg (.Call (.Name "range" p) [a] [] pos) (iI X.K W fun en st => (ta en st).bind fun ds st => ofL (rng1 ds) st) := by
  refine PIimp (pi_range1 hg hm ha hs) fun σ H R h => (tG.step h).mono fun vs H1 ⟨en, ds, io, st, er, so, rd, p⟩ => ?_
  unfold rng1 at p
  split at p
  · obtain ⟨v, rfl, rv⟩ := rd.one
    cases rv
    split at p
    · rename_i hb
      exact ⟨_, rfl, hb.1, hb.2, p _ io H1 (Ext.refl _ _) so yl_range⟩
    · exact p.elim
  · exact p.elim
theorem pi_range2I {a b : Expr} {ta : En → Sto → R (List D)} {p pos : Pos} (hg : Gl X "range") (hm : X.mg "range" = none) (ha : PA X [a, b] (tA X.K W ta)) (hs : starEach [a, b] X.env = [(false, eval a X.env), (false, eval b X.env)]) (hs2 : starEach [b] X.env = [(false, eval b X.env)]) :
    PI X tg (.Call (.Name "range" p) [a, b] [] pos) (iI X.K W fun en st => (ta en st).bind fun ds st => ofL (rng2 ds) st) := by
  refine PIimp (pi_range2 hg hm ha hs hs2) fun σ H R h => (tG.step h).mono fun vs H1 ⟨en, ds, io, st, er, so, rd, p⟩ => ?_
  unfold rng2 at p
  split at p
  · obtain ⟨v, w, rfl, rv, rw'⟩ := rd.two
    cases rv; cases rw'
    split at p
    · rename_i hb
      exact ⟨_, _, rfl, hb, p _ io H1 (Ext.refl _ _) so yl_range⟩
    · exact p.elim
  · exact p.elim
theorem pi_zipI {e2 : Expr} {ta : En → Sto → R (List D)} {p pos tpos : Pos} {elts : List Expr} {kk : Nat} (hg : Gl X "zip") (hm : X.mg "zip" = none) (ha : PA X [e, e2] (tA X.K W ta))
    (hs : starEach [e, e2] X.env = (false, eval e X.env) :: starEach [e2] X.env) (hpl : (backTo pos (starEach [e2] X.env)).any (·.1) = false) :
    PI X (.Tuple elts kk tpos) (.Call (.Name "zip" p) [e, e2] [] pos) (iI X.K W fun en st => (ta en st).bind fun ds st => ofL (zip2 ds) st) := by
  refine PIimp (RZ.pi_zipA hg hm ha hs hpl) fun σ H R h => (tG.step h).mono fun vs H1 ⟨en, ds, io, st, er, so, rd, p⟩ => ?_
  unfold zip2 at p
  split at p
  · obtain ⟨v, w, rfl, rv, rw'⟩ := rd.two
    obtain ⟨a, xs, rfl, hq, r⟩ := rv
    obtain ⟨b, ys, rfl, hq2, r2⟩ := rw'
    exact ⟨a, b, xs, ys, rfl, .inr ⟨.of hq, .of hq2, p _ io H1 (Ext.refl _ _) so (yl_zip (fun _ _ x => x.sqt (.of hq)) (fun _ _ x => x.sqt (.of hq2)) r r2)⟩⟩
  · exact p.elim
end
end Mi

set_option maxRecDepth 100000
set_option maxHeartbeats 4000000
/-! a dict of the store, locked while it is walked -/
namespace Mi
open PySem PySem.Spec L2
section
variable {K : PySem.W.Frag} {H H' : Hp} {io io' : Io} {st st' : Sto} {n : Nat} {a : Addr} {ks : List KeyD} {vs : List D} {od : Obj} {u : HO}
/-- unlocked again: the heap goes on from what it was ahead -/
theorem Ext.unlock {L : HO} (hH : H a = some L) (nf : ∀ f u, L ≠ .frz f u) (nt : ∀ xs, L ≠ .tup xs) (ha : a ∈ io.l) (x : Ext io (upd H a (.frz od L)) io' H') : Ext io H io' (upd H' a L) := by
  refine ⟨x.more, x.same, fun b o e nb => ?_, fun b m nb => ?_, fun b xs e => ?_, fun b o w e => ?_, fun b h1 h2 => ?_⟩
  · have ne : b ≠ a := fun z => nb (.inl (by rw [z]; exact ha))
    rw [upd_ne ne]
    exact x.keep b o (by rw [upd_ne ne]; exact e) nb
  · have ne : b ≠ a := fun z => nb (by rw [z]; exact ha)
    have q := x.hid b m nb
    rw [upd_ne ne] at q
    exact ⟨by rw [upd_ne ne]; exact q.1, q.2⟩
  · have ne : b ≠ a := fun z => by rw [z, hH] at e; cases e; exact nt _ rfl
    rw [upd_ne ne]
    exact x.tups b xs (by rw [upd_ne ne]; exact e)
  · have ne : b ≠ a := fun z => by rw [z, hH] at e; cases e; exact nf _ _ rfl
    rw [upd_ne ne]
    exact x.frzs b o w (by rw [upd_ne ne]; exact e)
  · have q := x.new b h1 h2
    have ne : b ≠ a := fun z => h2 (.inl (by rw [z]; exact ha))
    rw [upd_ne ne] at q
    exact q


theorem Mv0.unlock {o : Obj} {w : HO} (hH : H a = some (.frz o w)) (ha : a ∈ io.l) (v : HO) : Mv0 io H io (upd H a v) :=
  ⟨fun _ _ e => e, fun b u e nb => ⟨by rw [upd_ne (show b ≠ a from fun z => nb (.inl (by rw [z]; exact ha)))]; exact e, nb⟩, fun b xs e => by
    rw [upd_ne (fun z => by rw [z, hH] at e; cases e)]; exact e⟩
/-- unlocked: the store with the mark taken away -/
theorem StOk.unlock {o : Obj} {w : HO} (so : StOk K H io st) (ea : io.get n = some a) (hH : H a = some (.frz o w)) {b : Ob} (hb : ObAt K (upd H a w) io a b) : StOk K (upd H a w) io (st.set n b) := by
  have mv := Mv0.unlock hH (Io.get_mem ea) w
  refine ⟨by simp [so.len], so.nd, fun m c d e1 e2 => ?_, fun c m => ?_⟩
  · by_cases hm : m = n
    · subst hm
      rw [ea] at e1; cases e1
      have hl : m < st.length := by rw [← so.len]; exact (List.getElem?_eq_some_iff.mp ea).1
      rw [List.getElem?_set_self hl] at e2; cases e2
      exact hb
    · rw [List.getElem?_set_ne (Ne.symm hm)] at e2
      have hc : c ≠ a := fun e => hm (by
        subst e
        obtain ⟨h1, q1⟩ := List.getElem?_eq_some_iff.mp e1
        obtain ⟨h2, q2⟩ := List.getElem?_eq_some_iff.mp ea
        exact (List.getElem_inj so.nd).mp (q1.trans q2.symm))
      exact (so.ob m c d e1 e2).mv0 mv (upd_ne hc)
  · obtain ⟨n', u, e, r⟩ := so.hs c m
    exact ⟨n', u, by rw [upd_ne (fun z => n' (by rw [z]; exact Io.get_mem ea))]; exact e, r⟩
/-- a list or dict of the store, locked -/
theorem StOk.lockS {st1 : Sto} (so : StOk K H io st) (e : lockS n st = some st1) : ∃ a u, io.get n = some a ∧ H a = some u ∧ Mut (some u) ∧ (∀ f v, u ≠ .frz f v) ∧ (∀ xs, u ≠ .tup xs) ∧
    ∀ od, Ext io H io (upd H a (.frz od u)) ∧ StOk K (upd H a (.frz od u)) io st1 := by
  unfold Mi.lockS at e
  split at e
  · rename_i ds hq
    cases e
    obtain ⟨a, ea, xs, e1, rl⟩ := so.there hq
    refine ⟨a, _, ea, e1, trivial, (by intro _ _ z; cases z), (by intro _ z; cases z), fun od => ?_⟩
    have n2 : ∀ f u, H a ≠ some (.frz f u) := fun f u z => by rw [e1] at z; cases z
    have x := Ext.write so (Io.get_mem ea) (.frz od (.lst xs)) n2
    exact ⟨x, so.write ea n2 ⟨od, xs, upd_same, RepL.ext x _ _ rl⟩⟩
  · rename_i ks vs hq
    cases e
    obtain ⟨a, ea, xs, e1, hl, rl⟩ := so.there hq
    refine ⟨a, _, ea, e1, trivial, (by intro _ _ z; cases z), (by intro _ z; cases z), fun od => ?_⟩
    have n2 : ∀ f u, H a ≠ some (.frz f u) := fun f u z => by rw [e1] at z; cases z
    have x := Ext.write so (Io.get_mem ea) (.frz od (.dK ((ks.map keyOf).zip xs))) n2
    exact ⟨x, so.write ea n2 ⟨od, xs, upd_same, hl, RepL.ext x _ _ rl⟩⟩
  · cases e
theorem StOk.unlockS {o : Obj} {w : HO} {st1 : Sto} (so : StOk K H io st) (ea : io.get n = some a) (hH : H a = some (.frz o w)) (e : unlockS n st = some st1) : StOk K (upd H a w) io st1 := by
  have mv := Mv0.unlock hH (Io.get_mem ea) w
  unfold Mi.unlockS at e
  split at e
  · rename_i ds hq
    cases e
    obtain ⟨a', ea', o', xs, e1, rl⟩ := so.there hq
    rw [ea] at ea'; cases ea'
    rw [hH] at e1; cases e1
    exact so.unlock ea hH ⟨xs, upd_same, RepL.mv0 mv _ _ rl⟩
  · rename_i ks vs hq
    cases e
    obtain ⟨a', ea', o', xs, e1, hl, rl⟩ := so.there hq
    rw [ea] at ea'; cases ea'
    rw [hH] at e1; cases e1
    exact so.unlock ea hH ⟨xs, upd_same, hl, RepL.mv0 mv _ _ rl⟩
  · cases e
end
/-- the words ahead are told, the store is locked, the words behind run -/
theorem pe_lk {X : Cx} {W : WX} {e : Expr} {G : Gs} {C : Call} {src e' : E} (h : PE X e (tE X.K W (ev G C e'))) : PE X e (tE X.K W (ev G C (.lk src e'))) := by
  refine ⟨fun pins s σ H Q I hw => ?_⟩
  obtain ⟨en, st, io, er, so, p⟩ := hw
  unfold ev at p
  cases hl : lockAt (ev G C src en st) st with
  | none => rw [hl] at p; exact h.run pins s σ H Q I ⟨en, st, io, er, so, p⟩
  | some z =>
    obtain ⟨n, st1⟩ := z
    rw [hl] at p
    dsimp only at p
    have hk : lockS n st = some st1 := by
      unfold lockAt at hl
      split at hl
      · split at hl
        · rename_i q; cases hl; exact q
        · cases hl
      · cases hl
    obtain ⟨a, u, ea, hH, mu, nf, nt, F⟩ := so.lockS hk
    refine (pe_lock h).run pins s σ H Q I ⟨a, u, hH, mu, fun od => ?_⟩
    obtain ⟨x, s1⟩ := F od
    refine ⟨en, st1, io, er.ext x, s1, ?_⟩
    cases r : ev G C e' en st1 with
    | bad => rw [r] at p; exact p
    | exc y st2 => rw [r] at p; exact p.elim
    | ok d st2 =>
      rw [r] at p
      intro v io' H' x2 s2 rd
      have hf : H' a = some (.frz od u) := x2.frzs a od u upd_same
      refine ⟨hf, ?_⟩
      unfold unlockR at p
      dsimp only at p
      cases hu : unlockS n st2 with
      | none => rw [hu] at p; exact p.elim
      | some st3 =>
        rw [hu] at p
        have ea2 : io'.get n = some a := x2.at ea
        exact p v io' _ (Ext.unlock hH nf nt (Io.get_mem ea) x2) (s2.unlockS ea2 hf hu) (Rep.mv0 (Mv0.unlock hf (Io.get_mem ea2) u) _ _ rd)
end Mi

set_option maxRecDepth 100000
set_option maxHeartbeats 4000000
namespace Mi
open PySem PySem.Spec L2

/-! ### the code is the text's -/
def plainNm (x : Str) : Bool := !(x == ("__debug__" : Str)) && !(x == ("__classdict__" : Str)) && !(x == ("__name__" : Str))
def visB (sc : Scope) (x : Str) : Bool := match sc.names.lookup x with
  | some .local => true
  | some .cell => true
  | some .free => true
  | _ => false
def glB (sc : Scope) (x : Str) : Bool := (match sc.names.lookup x with
  | some .globalImplicit => true
  | _ => false) && plainNm x
def varB (N : List Str) (sc : Scope) (i : Nat) (x : Str) : Bool := decide (N[i]? = some x) && visB sc x && plainNm x
def locB (N : List Str) (sc : Scope) (fnc : Str → Bool) (i : Nat) (x : Str) : Bool := decide (N[i]? = some x) && (match sc.names.lookup x with
  | some .local => true
  | some .cell => fnc x
  | _ => false)
def tyB (x : Str) (n : String) : Bool := match bootBuiltins x with
  | some (.type m) => decide (m = n)
  | _ => false
def notSet : Expr → Bool
  | .Set _ _ _ => false
  | _ => true
def notSlice : Expr → Bool
  | .Slice _ _ _ _ => false
  | _ => true
def notStar : Expr → Bool
  | .Starred _ _ => false
  | _ => true
def isNm : Expr → Bool
  | .Name _ _ => true
  | _ => false
def op2 : B2 → Operator
  | .add => .Add | .sub => .Sub | .mul => .Mult | .div => .FloorDiv | .mod => .Mod | .pow => .Pow | .addL => .Add
def cp2 : C2 → CmpOp
  | .eq => .Eq | .ne => .NotEq | .lt => .Lt | .le => .LtE | .gt => .Gt | .ge => .GtE | .inn => .In | .notin => .NotIn | .is => .Is | .inT => .In | .notinT => .NotIn | .neNil => .NotEq | .ltT => .Lt | .isnot => .IsNot
def bfName : Bf → Str
  | .len => "len" | .all => "all" | .any => "any" | .int => "int" | .abs => "abs" | .max => "max" | .min => "min" | .list => "list" | .listM => "list" | .tuple => "tuple" | .isi => "isinstance" | .repr => "repr" | .lenT => "len" | .sortD => "sorted" | .dict => "dict"
def ckts (N : List Str) (sc : Scope) (fnc : Str → Bool) : List Nat → List Expr → Bool
  | [], [] => true
  | i :: is, .Name x _ :: es => locB N sc fnc i x && ckts N sc fnc is es
  | _, _ => false
def ckt (N : List Str) (sc : Scope) (fnc : Str → Bool) (is : List Nat) (un : Bool) (tg : Expr) : Bool := match un, is, tg with
  | false, [i], .Name x _ => locB N sc fnc i x
  | true, is, .Tuple es _ _ => ckts N sc fnc is es
  | _, _, _ => false
/-- what is no super() -/
def okBase : Expr → Bool
  | .Call (.Name id _) [] [] _ => id != ("super" : Str)
  | _ => true
theorem base_of {o : Expr} (h : okBase o = true) {m : Str} {env : Env} {w : Sem Value} : attributeBase o m env w = w := by
  unfold attributeBase
  split
  · rename_i p _
    exact abase_call (p := p) (attr := m) (env := env) (whole := w) h
  · rfl
def ckw (G : Gs) (sc : Scope) (k : Ik) (chk : List Expr → Bool) (tg iter : Expr) : Bool := match k, iter with
  | .seq, e => chk [e] && notSet e
  | .keys, e => chk [e] && notSet e
  | .own, e => chk [e] && notSet e
  | .items, .Call (.Attribute o y ap) [] [] cp => decide (y = "items") && (ap.endLine == cp.line) && okBase o && chk [o] && (match tg with
    | .Tuple _ _ _ => true
    | _ => false)
  | .range1, .Call (.Name y _) [a] [] _ => decide (y = "range") && glB sc y && decide (y ∈ G.no) && chk [a]
  | .range2, .Call (.Name y _) [a, b] [] _ => decide (y = "range") && glB sc y && decide (y ∈ G.no) && chk [a, b]
  | .zip, .Call (.Name y _) [a, b] [] _ => decide (y = "zip") && glB sc y && decide (y ∈ G.no) && chk [a, b] && (match tg with
    | .Tuple _ _ _ => true
    | _ => false)
  | _, _ => false
def bmName : Bm → Str
  | .split => "split" | .lstrip => "lstrip" | .join => "join" | .append => "append" | .extend => "extend" | .pop => "pop" | .get => "get" | .index => "index" | .update => "update" | .sindex => "index"
mutual
def ck (G : Gs) (N : List Str) : E → Scope → Expr → Bool
  | .var i, sc, .Name x _ => varB N sc i x
  | .int i, _, .Constant (.int j) _ _ => decide (i = j)
  | .str s, _, .Constant (.str x) _ _ => decide (x = ⟨s.toArray⟩)
  | .bool b, _, .Constant (.bool c) _ _ => decide (b = c)
  | .non, _, .Constant .none _ _ => true
  | .glo x, sc, .Name y _ => decide (nm x = y) && glB sc y && (G.glo.lookup x).isSome
  | .ty n, sc, .Name y _ => glB sc y && decide (y ∈ G.no) && tyB y (tyN n)
  | .bin o a b, sc, .BinOp a' o' b' _ => decide (o' = op2 o) && ck G N a sc a' && ck G N b sc b'
  | .neg a, sc, .UnaryOp .USub a' _ => ck G N a sc a'
  | .and a r, sc, .BoolOp .And (a' :: b' :: rest) pos => ck G N a sc a' && (match rest with
    | [] => ck G N r sc b'
    | c' :: rest => ck G N r sc (.BoolOp .And (b' :: c' :: rest) pos))
  | .or a r, sc, .BoolOp .Or (a' :: b' :: rest) pos => ck G N a sc a' && (match rest with
    | [] => ck G N r sc b'
    | c' :: rest => ck G N r sc (.BoolOp .Or (b' :: c' :: rest) pos))
  | .not a, sc, .UnaryOp .Not a' _ => ck G N a sc a'
  | .cmp o a b, sc, .Compare a' [o'] [b'] _ => decide (o' = cp2 o) && ck G N a sc a' && ck G N b sc b' && notSet b'
  | .isn a, sc, .Compare a' [.Is] [.Constant .none _ _] _ => ck G N a sc a'
  | .notn a, sc, .Compare a' [.IsNot] [.Constant .none _ _] _ => ck G N a sc a'
  | .chain o o2 a b c, sc, .Compare a' [p, q] [b', c'] _ => decide (p = cp2 o) && decide (q = cp2 o2) && ck G N a sc a' && ck G N b sc b' && ck G N c sc c' && notSet b' && notSet c'
  | .ite c a b, sc, .IfExp c' a' b' _ => ck G N c sc c' && ck G N a sc a' && ck G N b sc b'
  | .tup es, sc, .Tuple es' _ _ => ckl G N es sc es'
  | .lst _ es, sc, .List es' _ => ckl G N es sc es'
  | .edct, _, .Dict [] [] _ => true
  | .idx a b, sc, .Subscript a' b' _ => ck G N a sc a' && ck G N b sc b' && notSlice b'
  | .get a b, sc, .Subscript a' b' _ => ck G N a sc a' && ck G N b sc b' && notSlice b'
  | .sl a lo hi, sc, .Subscript a' (.Slice lo' hi' none _) _ => ck G N a sc a' && ckp G N lo sc lo' && ckp G N hi sc hi'
  | .rev a, sc, .Subscript a' (.Slice none none (some (.UnaryOp .USub (.Constant (.int j) _ _) _)) _) _ => ck G N a sc a' && decide (j = 1)
  | .sset a, sc, .Call (.Name x _) [.Call (.Name y _) [a'] [] _] [] _ => decide (x = "sorted") && decide (y = "set") && glB sc x && glB sc y && decide (x ∈ G.no) && decide (y ∈ G.no) && notStar a' && ck G N a sc a'
  | .upper a, sc, .Call (.Attribute a' m apos) [] [] pos => decide (m = "upper") && isNm a' && (apos.endLine == pos.line) && ck G N a sc a'
  | .bcall f es, sc, .Call (.Name x _) (e' :: es') [] _ => decide (x = bfName f) && glB sc x && decide (x ∈ G.no) && ckl G N es sc (e' :: es')
  | .call f es, sc, .Call (.Name x _) es' [] _ => decide (nm f = x) && decide (f < 10000) && glB sc x && (G.fns.lookup f).isSome && ckl G N es sc es'
  | .callv i es, sc, .Call (.Name x _) (e' :: es') [] _ => varB N sc i x && ckl G N es sc (e' :: es')
  | .callk f k e, sc, .Call (.Name x _) [] [⟨some k', e', _⟩] _ => decide (nm f = x) && decide (f < 10000) && decide (k = k') && glB sc x && decide (G.fns.lookup f = some [k]) && ck G N e sc e'
  | .lc k is un own src cond elt, sc, .ListComp elt' [⟨tg, iter, ifs, as⟩] scope _ => decide (as = 0) && blkC N sc scope own && ckw G sc k (fun xs => ckl G N src sc xs) tg iter &&
      ckt N (relS scope sc) (fun x => scope.names.lookup x == some .cell) is un tg && (is.all fun i => decide (i ∈ own.map (·.2))) && notSet iter && ckc G N cond (relS scope sc) ifs && ck G N elt (relS scope sc) elt'
  | .junk, _, _ => true
  | .attr f a, sc, .Attribute a' y _ => decide (nm f = y) && okBase a' && ck G N a sc a'
  | .meth m o es, sc, .Call (.Attribute o' y ap) es' [] pos => decide (nm m = y) && decide (m < 1104) && okBase o' && (ap.endLine == pos.line) && decide (es'.length < 30) && ck G N o sc o' && ckl G N es sc es'
  | .make c es, sc, .Call (.Name y _) (e' :: es') [] _ => decide (nm c = y) && glB sc y && G.I c && ckl G N es sc (e' :: es')
  | .bm m o es, sc, .Call (.Attribute o' y ap) (e' :: es') [] pos => decide (y = bmName m) && okBase o' && (ap.endLine == pos.line) && decide ((e' :: es').length < 30) && ck G N o sc o' && ckl G N es sc (e' :: es')
  | .ndct, _, .Dict [] [] _ => true
  | .getT a b, sc, .Subscript a' b' _ => ck G N a sc a' && ck G N b sc b' && notSlice b'
  | .dc _ k is un own src cond key val, sc, .DictComp kx vx [⟨tg, iter, ifs, as⟩] scope _ => decide (as = 0) && blkC N sc scope own && ckw G sc k (fun xs => ckl G N src sc xs) tg iter &&
      ckt N (relS scope sc) (fun x => scope.names.lookup x == some .cell) is un tg && (is.all fun i => decide (i ∈ own.map (·.2))) && notSet iter && ckc G N cond (relS scope sc) ifs && ck G N key (relS scope sc) kx && ck G N val (relS scope sc) vx
  | .tups es, sc, .Tuple es' _ _ => cklS G N es sc es'
  | .gin g a, sc, .Compare a' [.In] [.Name y _] _ => decide (nm g = y) && glB sc y && (G.dic.lookup g).isSome && ck G N a sc a'
  | .gget g b, sc, .Subscript (.Name y _) b' _ => decide (nm g = y) && glB sc y && (G.dic.lookup g).isSome && ck G N b sc b' && notSlice b'
  | .lk _ e, sc, x => (match x with
    | .ListComp _ _ _ _ => true
    | _ => false) && ck G N e sc x
  | .prop f a, sc, .Attribute a' y _ => decide (nm f = y) && decide (f < 1104) && okBase a' && ck G N a sc a'
  | .tupIt a, sc, .Call (.Name x _) [.Call (.Attribute a' y ap) [] [] cp] [] _ => decide (x = "tuple") && decide (y = "items") && glB sc x && decide (x ∈ G.no) && okBase a' && (ap.endLine == cp.line) && ck G N a sc a'
  | _, _, _ => false
termination_by structural e => e
def cklS (G : Gs) (N : List Str) : E → Scope → List Expr → Bool
  | .nil, _, [] => true
  | .cons a r, sc, a' :: r' => notStar a' && ck G N a sc a' && cklS G N r sc r'
  | .star a r, sc, .Starred a' _ :: r' => ck G N a sc a' && cklS G N r sc r'
  | _, _, _ => false
termination_by structural e => e
def ckl (G : Gs) (N : List Str) : E → Scope → List Expr → Bool
  | .nil, _, [] => true
  | .cons a r, sc, a' :: r' => notStar a' && ck G N a sc a' && ckl G N r sc r'
  | _, _, _ => false
termination_by structural e => e
def ckp (G : Gs) (N : List Str) : E → Scope → Option Expr → Bool
  | .nil, _, none => true
  | .cons a .nil, sc, some a' => ck G N a sc a'
  | _, _, _ => false
termination_by structural e => e
/-- a block's test, nil for none -/
def ckc (G : Gs) (N : List Str) : E → Scope → List Expr → Bool
  | .nil, _, [] => true
  | .cons a .nil, sc, [a'] => ck G N a sc a'
  | _, _, _ => false
termination_by structural e => e
end
end Mi

set_option maxRecDepth 100000
set_option maxHeartbeats 4000000
namespace Mi
open PySem PySem.Spec L2

section
variable {X : Cx} {W : WX} {a b c x : Expr} {ma mb mc : En → Sto → R D} {pos : Pos}
/-! ### truth -/
theorem tru_ok' (d : D) (st : Sto) : tru (.ok d st) = (match truthD d st with | some b => .ok b st | none => .bad) := rfl
theorem tru_bind {α : Type} (r : R α) (f : α → Sto → R D) : tru (r.bind f) = r.bind fun x st => tru (f x st) := by
  cases r <;> rfl
theorem pt_plain (h : PE X x (tE X.K W ma)) (he : ∀ whole, isTrue x X.env whole = (do let v ← whole; standAt x.pos; holding [v] (truthy v))) : PT X x (tT X.K W fun en st => tru (ma en st)) := by
  refine PTimp (pt_truth h he) fun σ H Q hw => (tG.step hw).mono fun v H1 ⟨en, d, io, st, er, so, rd, p⟩ => ?_
  cases e : truthD d st with
  | none => rw [e] at p; exact p.elim
  | some b =>
    rw [e] at p
    exact ⟨b, truth_at e so rd, p b io H1 (Ext.refl _ _) so rfl⟩
/-! ### two values -/
theorem pe_bin2 {op : Operator} {f : D → D → Sto → R D} (ho : OpR X (binaryOp op) (r2 X.K f)) (ha : PE X a (tE X.K W ma)) (hb : PE X b (tE X.K W mb)) :
    PE X (.BinOp a op b pos) (tE X.K W fun en st => (ma en st).bind fun x st => (mb en st).bind fun y st => shut (f x y st)) := by
  refine PEimp (pe_op ho ha hb) fun σ H Q h => (tG.step2 (Rp := RpD X.K) (Rp' := RpD X.K) (fun x r => Rep.ext x _ _ r) h).mono fun v H1 h1 => h1.mono fun u H2 ⟨en, d, e, io, st, er, so, rd, re, p⟩ => ?_
  exact ⟨d, e, st, io, so, rd, re, p.shut⟩
theorem pe_ix2 {f : D → D → Sto → R D} (ho : IxR X (r2 X.K f)) (ha : PE X a (tE X.K W ma)) (hb : PE X b (tE X.K W mb)) (hs : PlainIx b) :
    PE X (.Subscript a b pos) (tE X.K W fun en st => (ma en st).bind fun x st => (mb en st).bind fun y st => shut (f x y st)) := by
  refine PEimp (pe_ix ho ha hb hs) fun σ H Q h => (tG.step2 (Rp := RpD X.K) (Rp' := RpD X.K) (fun x r => Rep.ext x _ _ r) h).mono fun v H1 h1 => h1.mono fun u H2 ⟨en, d, e, io, st, er, so, rd, re, p⟩ => ?_
  exact ⟨d, e, st, io, so, rd, re, p.shut⟩
theorem pe_cmp2 {op : CmpOp} {f : D → D → Sto → R D} (ho : OpR X (compareOp op) (r2 X.K f)) (ha : PE X a (tE X.K W ma)) (hb : PE X b (tE X.K W mb)) (hm : behindInMarks op b = false) :
    PE X (.Compare a [op] [b] pos) (tE X.K W fun en st => (ma en st).bind fun x st => (mb en st).bind fun y st => shut (f x y st)) := by
  refine PEimp (pe_cmpR ho ha hb hm) fun σ H Q h => (tG.step2 (Rp := RpD X.K) (Rp' := RpD X.K) (fun x r => Rep.ext x _ _ r) h).mono fun v H1 h1 => h1.mono fun u H2 ⟨en, d, e, io, st, er, so, rd, re, p⟩ => ?_
  exact ⟨d, e, st, io, so, rd, re, p.shut⟩
/-- an answer that is a bool -/
def BlR (r : R D) : Prop := ∀ d st, r = .ok d st → ∃ b, d = .bl b
theorem Post.blr {K : PySem.W.Frag} {io : Io} {H : Hp} {W W' : XK} {r : R D} {Q : Bool → Hp → Prop} (hb : BlR r) (p : Post K io H W RpB (tru (Mi.shut r)) Q) : Post K io H W' (RpD K) r fun x H' => ∃ k, x = .bl k ∧ Q k H' := by
  cases r with
  | bad => exact p.elim
  | exc _ _ => exact p.elim
  | ok d st =>
    obtain ⟨b, rfl⟩ := hb _ _ rfl
    intro v io' H' x so rv
    cases rv
    exact ⟨b, rfl, p b io' H' x so rfl⟩
theorem tru_bind2 {α β : Type} (r : R α) (s : α → Sto → R β) (f : α → β → Sto → R D) : tru (r.bind fun x st => (s x st).bind fun y st => f x y st) = r.bind fun x st => (s x st).bind fun y st => tru (f x y st) := by
  cases r with
  | ok x st =>
    show tru ((s x st).bind fun y st => f x y st) = (s x st).bind fun y st => tru (f x y st)
    exact tru_bind _ _
  | exc _ _ => rfl
  | bad => rfl
theorem pt_cmp2 {op : CmpOp} {f : D → D → Sto → R D} (ho : OpR X (compareOp op) (r2 X.K f)) (hf : ∀ x y st, BlR (f x y st)) (ha : PE X a (tE X.K W ma)) (hb : PE X b (tE X.K W mb)) (hm : behindInMarks op b = false) :
    PT X (.Compare a [op] [b] pos) (tT X.K W fun en st => tru ((ma en st).bind fun x st => (mb en st).bind fun y st => shut (f x y st))) := by
  refine PTimp (pt_cmpR ho ha hb hm) fun σ H Q h => ?_
  have h' := tG.imp h fun en st => tru_bind2 (ma en st) (fun _ st => mb en st) fun x y st => shut (f x y st)
  refine (tG.step2 (Rp := RpD X.K) (Rp' := RpD X.K) (fun x r => Rep.ext x _ _ r) h').mono fun v H1 h1 => h1.mono fun u H2 ⟨en, d, e, io, st, er, so, rd, re, p⟩ => ?_
  exact ⟨d, e, st, io, so, rd, re, p.blr (hf _ _ _)⟩
theorem c2_bl (o : C2) (x y : D) (st : Sto) : BlR (c2 o x y st) := by
  intro d st' h
  have ob : ∀ o : Option Bool, ofB o st = .ok d st' → ∃ b, d = .bl b := by
    intro o h
    cases o with
    | none => cases h
    | some b => cases h; exact ⟨b, rfl⟩
  have lt : ∀ g : Int → Int → Bool, ltI g x y st = .ok d st' → ∃ b, d = .bl b := by
    intro g h
    unfold ltI at h
    split at h
    · cases h; exact ⟨_, rfl⟩
    · cases h
  cases o <;> first | exact ob _ h | exact lt _ h | skip
  · dsimp only [c2] at h
    unfold isB at h
    split at h
    · cases h; exact ⟨_, rfl⟩
    · cases h
  · dsimp only [c2] at h
    unfold inTD at h
    split at h
    · cases h; exact ⟨_, rfl⟩
    · cases h
  · dsimp only [c2] at h
    unfold notInTD at h
    split at h
    · cases h; exact ⟨_, rfl⟩
    · cases h
  · dsimp only [c2] at h
    unfold neNilD at h
    split at h
    · cases h; exact ⟨_, rfl⟩
    · cases h
  · dsimp only [c2] at h
    unfold ltTD at h
    split at h
    · split at h
      · cases h; exact ⟨_, rfl⟩
      · cases h
    · cases h
  · dsimp only [c2] at h
    unfold isnotB at h
    split at h
    · cases h; exact ⟨_, rfl⟩
    · cases h
theorem is_s : OpR X (compareOp .Is) (r2 X.K isB) := by
  intro pins s σ H x y v u Q I rx ry h
  obtain ⟨d, e, st, io, so, rd, re, p⟩ := h
  unfold isB at p
  split at p
  · cases rd; cases re
    exact op_isBl pins s σ H _ _ v u Q I rx ry ⟨_, _, rfl, rfl, p.bl so⟩
  · exact p.elim
theorem isnot_s : OpR X (compareOp .IsNot) (r2 X.K isnotB) := by
  intro pins s σ H x y v u Q I rx ry h
  obtain ⟨d, e, st, io, so, rd, re, p⟩ := h
  unfold isnotB at p
  split at p
  · cases rd; cases re
    exact op_notBl pins s σ H _ _ v u Q I rx ry ⟨_, _, rfl, rfl, p.bl so⟩
  · exact p.elim
theorem c2_ok (hu : X.A.units + 64 < cLine) (o : C2) : OpR X (compareOp (cp2 o)) (r2 X.K (c2 o)) := by
  cases o
  · exact eq_s hu
  · exact ne_s hu
  · exact lt_s
  · exact le_s
  · exact gt_s
  · exact ge_s
  · exact in_s hu
  · exact notIn_s hu
  · exact is_s
  · exact inT_s hu
  · exact notInT_s hu
  · exact neNil_s hu
  · exact ltT_s hu
  · exact isnot_s
theorem b2_ok (o : B2) : OpR X (binaryOp (op2 o)) (r2 X.K (b2 o)) := by
  cases o
  · exact add_s
  · exact sub_s
  · exact mul_s
  · exact div_s
  · exact mod_s
  · exact pow_s
  · exact addL_s
theorem marks_of (h : notSet b = true) (op : CmpOp) : behindInMarks op b = false := by
  cases b <;> first | rfl | cases h
theorem lastMarks_of (h : notSet c = true) (p q : CmpOp) : lastMarks [p, q] [b, c] = false := marks_of h q
/-! ### a chain -/
theorem pe_chain2 (o o2 : C2) (hu : X.A.units + 64 < cLine) (ha : PE X a (tE X.K W ma)) (hb : PE X b (tE X.K W mb)) (hc : PE X c (tE X.K W mc)) (hm : notSet c = true) :
    PE X (.Compare a [cp2 o, cp2 o2] [b, c] pos) (tE X.K W fun en st => (ma en st).bind fun x st => (mb en st).bind fun y st => (shut (c2 o x y st)).bind fun r st => (match r with
      | .bl true => (mc en st).bind fun z st => shut (c2 o2 y z st)
      | .bl false => .ok (.bl false) st
      | _ => .bad)) := by
  refine PEimp (pe_chain (c2_ok hu o) (c2_ok hu o2) ha hb hc (lastMarks_of hm _ _)) fun σ H Q h => (tG.step2 (Rp := RpD X.K) (Rp' := RpD X.K) (fun x r => Rep.ext x _ _ r) h).mono fun v H1 h1 => h1.mono fun u H2 ⟨en, d, e, io, st, er, so, rd, re, p⟩ => ?_
  refine ⟨d, e, st, io, so, rd, re, ?_⟩
  have p' := Post.bind (Rp := RpD X.K) p
  refine p'.shut.mono fun z H3 ⟨dz, io3, st3, x3, s3, rz, p3⟩ => ?_
  cases dz <;> first | exact p3.elim | skip
  rename_i k
  cases rz
  refine ⟨k, rfl, ?_⟩
  cases k with
  | false => rw [if_neg (by decide)]; exact p3 _ io3 H3 (Ext.refl _ _) s3 rfl
  | true =>
    rw [if_pos rfl]
    exact ⟨en, st3, io3, er.ext x3, s3, (Post.bind (Rp := RpD X.K) p3).mono fun z H4 ⟨dz, io4, st4, x4, s4, rz, p4⟩ => ⟨e, dz, st4, io4, s4, (Rep.ext (x3.trans x4) _ _ re), rz, p4.shut⟩⟩
theorem pt_chain2 (o o2 : C2) (hu : X.A.units + 64 < cLine) (ha : PE X a (tE X.K W ma)) (hb : PE X b (tE X.K W mb)) (hc : PE X c (tE X.K W mc)) (hm : notSet c = true) :
    PT X (.Compare a [cp2 o, cp2 o2] [b, c] pos) (tT X.K W fun en st => tru ((ma en st).bind fun x st => (mb en st).bind fun y st => (shut (c2 o x y st)).bind fun r st => (match r with
      | .bl true => (mc en st).bind fun z st => shut (c2 o2 y z st)
      | .bl false => .ok (.bl false) st
      | _ => .bad))) := by
  refine PTimp (pt_chain (c2_ok hu o) (c2_ok hu o2) ha hb hc (lastMarks_of hm _ _)) fun σ H Q h => ?_
  have h' := tG.imp h fun en st => tru_bind2 (ma en st) (fun _ st => mb en st) _
  refine (tG.step2 (Rp := RpD X.K) (Rp' := RpD X.K) (fun x r => Rep.ext x _ _ r) h').mono fun v H1 h1 => h1.mono fun u H2 ⟨en, d, e, io, st, er, so, rd, re, p⟩ => ?_
  refine ⟨d, e, st, io, so, rd, re, ?_⟩
  rw [tru_bind] at p
  have p' := Post.bind (Rp := RpD X.K) p
  refine p'.shut.mono fun z H3 ⟨dz, io3, st3, x3, s3, rz, p3⟩ => ?_
  cases dz <;> first | exact p3.elim | skip
  rename_i k
  cases rz
  refine ⟨k, rfl, ?_⟩
  cases k with
  | false => rw [if_neg (by decide)]; exact ⟨false, rfl, p3 _ io3 H3 (Ext.refl _ _) s3 rfl⟩
  | true =>
    rw [if_pos rfl]
    have p3' : Post X.K io3 H3 _ RpB (tru ((mc en st3).bind fun z st => shut (c2 o2 e z st))) Q := p3
    rw [tru_bind] at p3'
    exact ⟨en, st3, io3, er.ext x3, s3, (Post.bind (Rp := RpD X.K) p3').mono fun z H4 ⟨dz, io4, st4, x4, s4, rz, p4⟩ => ⟨e, dz, st4, io4, s4, (Rep.ext (x3.trans x4) _ _ re), rz, p4.blr (c2_bl _ _ _ _)⟩⟩
/-! ### is None -/
theorem non_iff {K : PySem.W.Frag} {H : Hp} {io : Io} {d : D} {v : V} (r : Rep K H io d v) : decide (v = .non) = isNon d := by
  cases d with
  | non => cases r; rfl
  | bl b => cases r; rfl
  | int b => cases r; rfl
  | str b => cases r; rfl
  | tup ds => obtain ⟨a, xs, rfl, _⟩ := r; rfl
  | lst ds => obtain ⟨a, xs, rfl, _⟩ := r; rfl
  | fro ds => obtain ⟨a, xs, rfl, _⟩ := r; rfl
  | dct ks vs => obtain ⟨a, xs, rfl, _⟩ := r; rfl
  | dtu ks vs => obtain ⟨a, xs, rfl, _⟩ := r; rfl
  | loc n => obtain ⟨a, _, rfl⟩ := r; rfl
  | glo x => cases r; rfl
  | ty n => cases r; rfl
  | tuq _ => obtain ⟨a, xs, rfl, _⟩ := r; rfl
  | xcp _ _ _ => obtain ⟨a, xs, rfl, _⟩ := r; rfl
theorem pe_isn2 {j pos'} (ha : PE X a (tE X.K W ma)) : PE X (.Compare a [.Is] [.Constant .none j pos'] pos) (tE X.K W fun en st => (ma en st).bind fun x st => .ok (.bl (isNon x)) st) := by
  refine PEimp (pe_cmp (pc_isN ha)) fun σ H Q h => (tG.step (Rp := RpD X.K) h).mono fun v H1 ⟨en, d, io, st, er, so, rd, p⟩ => ?_
  rw [non_iff rd]
  exact p _ io H1 (Ext.refl _ _) so rfl
theorem pt_isn2 {j pos'} (ha : PE X a (tE X.K W ma)) : PT X (.Compare a [.Is] [.Constant .none j pos'] pos) (tT X.K W fun en st => tru ((ma en st).bind fun x st => .ok (.bl (isNon x)) st)) := by
  refine PTimp (pt_cmp (pc_isN ha)) fun σ H Q h => (tG.step (Rp := RpD X.K) (tG.imp h fun en st => tru_bind _ _)).mono fun v H1 ⟨en, d, io, st, er, so, rd, p⟩ => ?_
  rw [non_iff rd]
  exact ⟨_, rfl, p _ io H1 (Ext.refl _ _) so rfl⟩
theorem pe_notn2 {j pos'} (ha : PE X a (tE X.K W ma)) : PE X (.Compare a [.IsNot] [.Constant .none j pos'] pos) (tE X.K W fun en st => (ma en st).bind fun x st => .ok (.bl (!isNon x)) st) := by
  refine PEimp (pe_cmp (pc_notN ha)) fun σ H Q h => (tG.step (Rp := RpD X.K) h).mono fun v H1 ⟨en, d, io, st, er, so, rd, p⟩ => ?_
  rw [non_iff rd]
  exact p _ io H1 (Ext.refl _ _) so rfl
theorem pt_notn2 {j pos'} (ha : PE X a (tE X.K W ma)) : PT X (.Compare a [.IsNot] [.Constant .none j pos'] pos) (tT X.K W fun en st => tru ((ma en st).bind fun x st => .ok (.bl (!isNon x)) st)) := by
  refine PTimp (pt_cmp (pc_notN ha)) fun σ H Q h => (tG.step (Rp := RpD X.K) (tG.imp h fun en st => tru_bind _ _)).mono fun v H1 ⟨en, d, io, st, er, so, rd, p⟩ => ?_
  rw [non_iff rd]
  exact ⟨_, rfl, p _ io H1 (Ext.refl _ _) so rfl⟩
/-! ### not, and, or -/
theorem pe_not2 (ha : PE X a (tE X.K W ma)) : PE X (.UnaryOp .Not a pos) (tE X.K W fun en st => (ma en st).bind fun x st => (match truthD x st with
    | some b => .ok (.bl (!b)) st
    | none => .bad)) := by
  refine ⟨fun pins s σ H Q I h => ?_⟩
  refine PyProof.Rows.UnaryOp_ (thn (ha.run pins s σ H _ I (tG.step (Rp := RpD X.K) h)) fun u s1 ⟨v, H1, I1, ru, en, d, io, st, er, so, rd, p⟩ => ?_)
  cases e : truthD d st with
  | none => rw [e] at p; exact p.elim
  | some b =>
    rw [e] at p
    exact PyProof.Rows.not_of (thn (tru_ok pins s1 σ H1 v u (fun k H' => k = b ∧ H' = H1) I1 ru ⟨b, truth_at e so rd, rfl, rfl⟩) fun c s2 ⟨H2, I2, h2, h3⟩ => by
      subst h2 h3
      exact ⟨.bl (!c), _, I2, rfl, p _ io _ (Ext.refl _ _) so rfl⟩)
theorem pt_not2 (ha : PT X a (tT X.K W fun en st => tru (ma en st))) : PT X (.UnaryOp .Not a pos) (tT X.K W fun en st => tru ((ma en st).bind fun x st => (match truthD x st with
    | some b => .ok (.bl (!b)) st
    | none => .bad))) := by
  refine PTimp (pt_not ha) fun σ H Q h => ?_
  have h' : tG X.K W RpB (fun en st => (tru (ma en st)).bind fun b st => .ok (!b) st) σ H Q := tG.imp h fun en st => by
    cases ma en st with
    | ok d st =>
      simp only [R.bind_ok, tru]
      cases truthD d st <;> rfl
    | exc _ _ => rfl
    | bad => rfl
  exact (tG.step (Rp := RpB) h').mono fun v H1 ⟨en, d, io, st, er, so, rd, p⟩ => by
    cases rd
    exact p _ io H1 (Ext.refl _ _) so rfl
variable {rest : List Expr}
def andR (ma mb : En → Sto → R D) : En → Sto → R D := fun en st => (ma en st).bind fun x st => (match truthD x st with
    | some true => mb en st
    | some false => .ok x st
    | none => .bad)
def orR (ma mb : En → Sto → R D) : En → Sto → R D := fun en st => (ma en st).bind fun x st => (match truthD x st with
    | some true => .ok x st
    | some false => mb en st
    | none => .bad)
theorem pe_and2 (ha : PE X a (tE X.K W ma)) (hb : PE X (.BoolOp .And (b :: rest) pos) (tE X.K W mb)) : PE X (.BoolOp .And (a :: b :: rest) pos) (tE X.K W (andR ma mb)) := by
  refine ⟨fun pins s σ H Q I h => ?_⟩
  refine PyProof.Rows.BoolOp_and (thn (ha.run pins s σ H _ I (tG.step (Rp := RpD X.K) h)) fun u s1 ⟨v, H1, I1, ru, en, d, io, st, er, so, rd, p⟩ => ?_)
  cases e : truthD d st with
  | none => rw [e] at p; exact p.elim
  | some k =>
    rw [e] at p
    refine thn (tru_ok pins s1 σ H1 v u (fun k' H' => k' = k ∧ H' = H1) I1 ru ⟨k, truth_at e so rd, rfl, rfl⟩) fun c s2 ⟨H2, I2, h2, h3⟩ => ?_
    subst h2 h3
    cases c with
    | true =>
      rw [if_pos rfl]
      exact hb.run pins s2 σ _ Q I2 ⟨en, st, io, er, so, p⟩
    | false =>
      rw [if_neg (by decide)]
      exact ⟨v, _, I2, ru, p _ io _ (Ext.refl _ _) so rd⟩
theorem pe_or2 (ha : PE X a (tE X.K W ma)) (hb : PE X (.BoolOp .Or (b :: rest) pos) (tE X.K W mb)) : PE X (.BoolOp .Or (a :: b :: rest) pos) (tE X.K W (orR ma mb)) := by
  refine ⟨fun pins s σ H Q I h => ?_⟩
  refine PyProof.Rows.BoolOp_or (thn (ha.run pins s σ H _ I (tG.step (Rp := RpD X.K) h)) fun u s1 ⟨v, H1, I1, ru, en, d, io, st, er, so, rd, p⟩ => ?_)
  cases e : truthD d st with
  | none => rw [e] at p; exact p.elim
  | some k =>
    rw [e] at p
    refine thn (tru_ok pins s1 σ H1 v u (fun k' H' => k' = k ∧ H' = H1) I1 ru ⟨k, truth_at e so rd, rfl, rfl⟩) fun c s2 ⟨H2, I2, h2, h3⟩ => ?_
    subst h2 h3
    cases c with
    | false =>
      rw [if_neg (by decide)]
      exact hb.run pins s2 σ _ Q I2 ⟨en, st, io, er, so, p⟩
    | true =>
      rw [if_pos rfl]
      exact ⟨v, _, I2, ru, p _ io _ (Ext.refl _ _) so rd⟩
theorem tru_and (r : R D) (m : Sto → R D) : tru (r.bind fun x st => (match truthD x st with
    | some true => m st
    | some false => .ok x st
    | none => .bad)) = (tru r).bind fun k st => (match k with
    | true => tru (m st)
    | false => .ok false st) := by
  cases r with
  | ok d st =>
    simp only [R.bind_ok, tru]
    cases e : truthD d st with
    | none => rfl
    | some k =>
      cases k with
      | true => rfl
      | false =>
        show tru (.ok d st) = _
        rw [tru_ok', e]
        rfl
  | exc _ _ => rfl
  | bad => rfl
theorem tru_or (r : R D) (m : Sto → R D) : tru (r.bind fun x st => (match truthD x st with
    | some true => .ok x st
    | some false => m st
    | none => .bad)) = (tru r).bind fun k st => (match k with
    | true => .ok true st
    | false => tru (m st)) := by
  cases r with
  | ok d st =>
    simp only [R.bind_ok, tru]
    cases e : truthD d st with
    | none => rfl
    | some k =>
      cases k with
      | false => rfl
      | true =>
        show tru (.ok d st) = _
        rw [tru_ok', e]
        rfl
  | exc _ _ => rfl
  | bad => rfl
abbrev tTr (K : PySem.W.Frag) (W : WX) (m : En → Sto → R D) : TT := tT K W fun en st => tru (m en st)
theorem pw_and2 (ha : PT X a (tTr X.K W ma)) (hb : PW X (.BoolOp .And (b :: rest) pos) (tTr X.K W mb)) : PW X (.BoolOp .And (a :: b :: rest) pos) (tTr X.K W (andR ma mb)) := by
  refine PWimp (pw_and ha hb) fun σ H Q h => ?_
  refine (tG.step (Rp := RpB) (tG.imp h fun en st => tru_and (ma en st) (mb en))).mono fun v H1 ⟨en, d, io, st, er, so, rd, p⟩ => ?_
  cases rd
  cases v with
  | true => rw [if_pos rfl]; exact ⟨en, st, io, er, so, p⟩
  | false => rw [if_neg (by decide)]; exact p _ io H1 (Ext.refl _ _) so rfl
theorem pw_or2 (ha : PT X a (tTr X.K W ma)) (hb : PW X (.BoolOp .Or (b :: rest) pos) (tTr X.K W mb)) : PW X (.BoolOp .Or (a :: b :: rest) pos) (tTr X.K W (orR ma mb)) := by
  refine PWimp (pw_or ha hb) fun σ H Q h => ?_
  refine (tG.step (Rp := RpB) (tG.imp h fun en st => tru_or (ma en st) (mb en))).mono fun v H1 ⟨en, d, io, st, er, so, rd, p⟩ => ?_
  cases rd
  cases v with
  | true => rw [if_pos rfl]; exact p _ io H1 (Ext.refl _ _) so rfl
  | false => rw [if_neg (by decide)]; exact ⟨en, st, io, er, so, p⟩
/-! ### a if c else b -/
def iteR (mc ma mb : En → Sto → R D) : En → Sto → R D := fun en st => (tru (mc en st)).bind fun k st => (match k with
    | true => ma en st
    | false => mb en st)
theorem pe_ite2 (hc : PT X c (tTr X.K W mc)) (ha : PE X a (tE X.K W ma)) (hb : PE X b (tE X.K W mb)) : PE X (.IfExp c a b pos) (tE X.K W (iteR mc ma mb)) := by
  refine PEimp (pe_ifExp hc ha hb) fun σ H Q h => (tG.step (Rp := RpB) h).mono fun v H1 ⟨en, d, io, st, er, so, rd, p⟩ => ?_
  cases rd
  cases v with
  | true => rw [if_pos rfl]; exact ⟨en, st, io, er, so, p⟩
  | false => rw [if_neg (by decide)]; exact ⟨en, st, io, er, so, p⟩
theorem pt_ite2 (hc : PT X c (tTr X.K W mc)) (ha : PT X a (tTr X.K W ma)) (hb : PT X b (tTr X.K W mb)) : PT X (.IfExp c a b pos) (tTr X.K W (iteR mc ma mb)) := by
  refine ⟨fun pins s σ H Q I h => ?_⟩
  have h' : tG X.K W RpB (fun en st => (tru (mc en st)).bind fun k st => (match k with | true => tru (ma en st) | false => tru (mb en st))) σ H Q := tG.imp h fun en st => by
    show tru ((tru (mc en st)).bind _) = _
    rw [tru_bind]
    congr 1
    funext k st
    cases k <;> rfl
  show wpAny _ _ (do if ← isTrue c X.env (eval c X.env) then isTrue a X.env (eval a X.env) else isTrue b X.env (eval b X.env)) _ _ _
  refine wpAny_bind (thn (hc.run pins s σ H _ I (tG.step (Rp := RpB) h')) fun k s1 ⟨H1, I1, en, d, io, st, er, so, rd, p⟩ => ?_)
  cases rd
  cases k with
  | true => exact ha.run pins s1 σ H1 Q I1 ⟨en, st, io, er, so, p⟩
  | false => exact hb.run pins s1 σ H1 Q I1 ⟨en, st, io, er, so, p⟩
end
end Mi

set_option maxRecDepth 100000
set_option maxHeartbeats 4000000
namespace Mi
open PySem PySem.Spec L2

section
variable {X : Cx} {W : WX} {a b x : Expr} {es : List Expr} {ma mb : En → Sto → R D} {ms : En → Sto → R (List D)} {pos : Pos} {G : Gs} {C : Call}
/-! ### argument lists -/
theorem star_of (h : notStar a = true) (es : List Expr) (env : Env) : starEach (a :: es) env = (false, eval a env) :: starEach es env := by
  cases a <;> first | rfl | cases h
theorem plain_of {env : Env} : ∀ {es : List Expr}, (∀ e ∈ es, notStar e = true) → (backTo pos (starEach es env)).any (·.1) = false
  | [], _ => rfl
  | e :: es, h => by
    rw [star_of (h e (by simp))]
    exact plain_of (env := env) (es := es) fun e' he => h e' (List.mem_cons_of_mem _ he)
theorem pa_nil2 : PA X [] (tA X.K W fun _ st => .ok [] st) := PAimp pa_nil fun σ H Q ⟨en, st, io, er, so, p⟩ => p [] io H (Ext.refl _ _) so rfl
theorem pa_cons2 (hs : notStar a = true) (ha : PE X a (tE X.K W ma)) (hr : PA X es (tA X.K W ms)) : PA X (a :: es) (tA X.K W fun en st => (ma en st).bind fun x st => (ms en st).bind fun xs st => .ok (x :: xs) st) := by
  refine PAimp (pa_cons ha hr (star_of hs _ _)) fun σ H Q h => (tG.step2 (Rp := RpD X.K) (Rp' := RpL X.K) (fun x r => Rep.ext x _ _ r) h).mono fun v H1 h1 => h1.mono fun u H2 ⟨en, d, e, io, st, er, so, rd, re, p⟩ => ?_
  exact p (v :: u) io H2 (Ext.refl _ _) so (.cons rd re)
theorem pe_tup2 {k : Nat} (h : PA X es (tA X.K W ms)) : PE X (.Tuple es k pos) (tE X.K W fun en st => (ms en st).bind fun ds st => if ds.length ≤ sz then .ok (.tup ds) st else .bad) := by
  refine PEimp (pe_tup h) fun σ H Q hw => (tG.step (Rp := RpL X.K) hw).mono fun vs H1 ⟨en, ds, io, st, er, so, rd, p⟩ => ?_
  obtain ⟨hz, p⟩ := Post.ite p
  exact ⟨by rw [← sz_eq, ← rd.len]; exact hz, fun q n => p.newT so rd q n⟩
theorem pe_lst2 {m : Bool} (h : PA X es (tA X.K W ms)) : PE X (.List es pos) (tE X.K W fun en st => (ms en st).bind fun ds st => if ds.length ≤ sz then (match m with
    | false => .ok (.lst ds) st
    | true => .ok (.loc st.length) (st ++ [.lst ds])) else .bad) := by
  refine PEimp (pe_lst h) fun σ H Q hw => (tG.step (Rp := RpL X.K) hw).mono fun vs H1 ⟨en, ds, io, st, er, so, rd, p⟩ => ?_
  obtain ⟨hz, p⟩ := Post.ite p
  refine ⟨by rw [← sz_eq, ← rd.len]; exact hz, fun q n => ?_⟩
  cases m with
  | false => exact p.newL so rd q n
  | true => exact p.pushL so rd q n
/-! ### slices -/
theorem po_none2 : PO X none (tO X.K W fun _ st => .ok none st) := POimp po_none fun σ H Q ⟨en, st, io, er, so, p⟩ => p none io H (Ext.refl _ _) so rfl
def partR (ma : En → Sto → R D) : En → Sto → R (Option Int) := fun en st => (ma en st).bind fun x st => (match x with
    | .int i => .ok (some i) st
    | _ => .bad)
theorem po_some2 (ha : PE X a (tE X.K W ma)) : PO X (some a) (tO X.K W (partR ma)) := by
  refine POimp (po_some ha) fun σ H Q h => (tG.step (Rp := RpD X.K) h).mono fun v H1 ⟨en, d, io, st, er, so, rd, p⟩ => ?_
  cases d <;> first | exact p.elim | skip
  cases rd
  exact ⟨_, rfl, p _ io H1 (Ext.refl _ _) so rfl⟩
theorem pe_sl2 {lo hi : Option Expr} {ml mh : En → Sto → R (Option Int)} {p2 : Pos} (ha : PE X a (tE X.K W ma)) (hl : PO X lo (tO X.K W ml)) (hh : PO X hi (tO X.K W mh)) :
    PE X (.Subscript a (.Slice lo hi none p2) pos) (tE X.K W fun en st => (ma en st).bind fun x st => (ml en st).bind fun l st => (mh en st).bind fun u st => shut (slD x l u st)) := by
  refine PEimp (pe_slice sl_s ha hl hh) fun σ H Q h => (tG.step (Rp := RpD X.K) h).mono fun v H1 ⟨en, d, io, st, er, so, rd, p⟩ => ?_
  refine ⟨en, st, io, er, so, (Post.bind (Rp := RpO) p).mono fun l H2 ⟨l', io2, st2, x2, so2, rl, p2⟩ => ?_⟩
  cases rl
  refine ⟨en, st2, io2, er.ext x2, so2, (Post.bind (Rp := RpO) p2).mono fun u H3 ⟨u', io3, st3, x3, so3, ru, p3⟩ => ?_⟩
  cases ru
  exact ⟨d, st3, io3, so3, Rep.ext (x2.trans x3) _ _ rd, p3.shut⟩
theorem pe_rev2 {k : Nat} {p1 p2 p3 : Pos} (ha : PE X a (tE X.K W ma)) : PE X (.Subscript a (.Slice none none (some (.UnaryOp .USub (.Constant (.int 1) k p1) p2)) p3) pos) (tE X.K W fun en st => (ma en st).bind fun x st => shut (revD x st)) := by
  refine PEimp (pe_revT ha) fun σ H Q h => (tG.step (Rp := RpD X.K) h).mono fun v H1 ⟨en, d, io, st, er, so, rd, p⟩ => ?_
  cases d <;> first | exact p.elim | skip
  obtain ⟨a, xs, rfl, hq, r⟩ := rd
  exact ⟨a, xs, rfl, .of hq, fun q n => p.newT so r.reverse q n⟩
theorem pe_neg2 (ha : PE X a (tE X.K W ma)) : PE X (.UnaryOp .USub a pos) (tE X.K W fun en st => (ma en st).bind fun x st => shut (negD x st)) := by
  refine PEimp (pe_un un_neg ha) fun σ H Q h => (tG.step (Rp := RpD X.K) h).mono fun v H1 ⟨en, d, io, st, er, so, rd, p⟩ => ?_
  cases d <;> first | exact p.elim | skip
  cases rd
  exact ⟨_, rfl, p _ io H1 (Ext.refl _ _) so rfl⟩
/-! ### names -/
theorem gl_of {sc : Scope} (h : glB sc y = true) : sc.names.lookup y = some .globalImplicit ∧ plainNm y = true := by
  unfold glB at h
  rw [Bool.and_eq_true] at h
  obtain ⟨h1, h2⟩ := h
  refine ⟨?_, h2⟩
  split at h1
  · assumption
  · cases h1
theorem nm_of {y : Str} (h : plainNm y = true) : (y == ("__debug__" : Str)) = false ∧ (y == ("__classdict__" : Str)) = false ∧ y ≠ "__name__" := by
  unfold plainNm at h
  simp only [Bool.and_eq_true, Bool.not_eq_true'] at h
  exact ⟨h.1.1, h.1.2, fun e => by rw [e] at h; exact absurd h.2 (by simp)⟩
theorem vis_of {sc : Scope} {y : Str} (h : visB sc y = true) : Vis sc y := by
  unfold visB at h
  split at h
  · exact .inl (by assumption)
  · exact .inr (.inl (by assumption))
  · exact .inr (.inr (by assumption))
  · cases h
theorem pe_var2 {i : Nat} {y : Str} (h : varB X.N X.env.scope i y = true) : PE X (.Name y pos) (tE X.K W fun en st => (match en[i]? with
    | some (some d) => .ok d st
    | _ => .bad)) := by
  unfold varB at h
  simp only [Bool.and_eq_true, decide_eq_true_eq] at h
  obtain ⟨⟨h1, h2⟩, h3⟩ := h
  obtain ⟨n1, n2, n3⟩ := nm_of h3
  refine PEimp (pe_var h1 (vis_of h2) n1 n2) fun σ H Q ⟨en, st, io, er, so, p⟩ => ?_
  dsimp only at p
  cases e : en[i]? with
  | none => rw [show (match en[i]? with | some (some d) => R.ok d st | _ => R.bad) = R.bad by rw [e]] at p; exact p.elim
  | some o =>
    cases o with
    | none => rw [show (match en[i]? with | some (some d) => R.ok d st | _ => R.bad) = R.bad by rw [e]] at p; exact p.elim
    | some d =>
      rw [show (match en[i]? with | some (some d) => R.ok d st | _ => R.bad) = R.ok d st by rw [e]] at p
      obtain ⟨v, e2, r⟩ := er.2 _ _ e
      exact ⟨v, e2, p v io H (Ext.refl _ _) so r⟩
theorem ty_of {y : Str} {n : String} (h : tyB y n = true) : bootBuiltins y = some (.type n) := by
  unfold tyB at h
  split at h
  · rename_i m e
    rw [e, of_decide_eq_true h]
  · cases h
theorem pe_ty2 {y : Str} {n : Nat} (hg : glB X.env.scope y = true) (hm : X.mg y = none) (ht : tyB y (tyN n) = true) : PE X (.Name y pos) (tE X.K W fun _ st => .ok (.ty n) st) := by
  obtain ⟨g1, g2⟩ := gl_of hg
  obtain ⟨n1, n2, n3⟩ := nm_of g2
  exact PEimp (pe_bltn (v := .ty (tyN n)) g1 hm (ty_of ht) rfl n3 n1) fun σ H Q ⟨en, st, io, er, so, p⟩ => p _ io H (Ext.refl _ _) so rfl
theorem pe_glo2 (g : Good G C X W) {y : Nat} {d : D} (hg : glB X.env.scope (nm y) = true) (hd : G.glo.lookup y = some d) : PE X (.Name (nm y) pos) (tE X.K W fun _ st => .ok d st) := by
  obtain ⟨g1, g2⟩ := gl_of hg
  obtain ⟨n1, n2, n3⟩ := nm_of g2
  obtain ⟨u, v, hm, r, rep⟩ := g.glo y d hd
  exact PEimp (pe_glob (v := v) g1 hm r n1) fun σ H Q ⟨en, st, io, er, so, p⟩ => p _ io H (Ext.refl _ _) so (rep H io)
theorem pe_con2 {v : V} {d : D} (h : PE X x (tC v)) (r : ∀ H io, Rep X.K H io d v) : PE X x (tE X.K W fun _ st => .ok d st) :=
  PEimp h fun σ H Q ⟨en, st, io, er, so, p⟩ => p v io H (Ext.refl _ _) so (r H io)
theorem upd_upd {H : Hp} {a : Addr} {u v : HO} : upd (upd H a u) a v = upd H a v := by
  funext b
  by_cases h : b = a
  · subst h; rw [upd_same, upd_same]
  · rw [upd_ne h, upd_ne h, upd_ne h]
/-- what the value stands for is known to its object from now on -/
theorem pe_freeze {e : Expr} {t : TE} (h : PE X e t) : PE X e (fun σ H Q => t σ H fun v H1 => ∃ d u, v = .ref d ∧ H1 d = some u ∧ Mut (some u) ∧ ∀ od, Q v (upd H1 d (.frz od u))) := by
  refine ⟨fun pins s σ H Q I hw => ?_⟩
  refine thn (h.run pins s σ H _ I hw) fun u s1 ⟨x, H1, I1, rx, d, w, ex, hd, mu, q⟩ => ?_
  obtain ⟨od, I2⟩ := I1.lock hd mu
  exact ⟨x, _, I2, rx, q od⟩
theorem pe_edct2 : PE X (.Dict [] [] pos) (tE X.K W fun _ st => .ok (.dct [] []) st) := by
  refine PEimp (pe_freeze pe_dnewK) fun σ H Q ⟨en, st, io, er, so, p⟩ => ?_
  intro q n
  refine ⟨q, _, rfl, upd_same, trivial, fun od => ?_⟩
  rw [upd_upd]
  exact p _ io _ (Ext.fresh so n _) (so.fresh n _) ⟨q, [], rfl, ⟨od, upd_same, so.free n⟩, rfl, rfl⟩
/-- a new dict of the store -/
theorem pe_ndct2 : PE X (.Dict [] [] pos) (tE X.K W fun _ st => .ok (.loc st.length) (st ++ [.dct [] []])) := by
  refine PEimp pe_dnewK fun σ H Q ⟨en, st, io, er, so, p⟩ => ?_
  intro q n
  exact p _ _ _ (Ext.push so n _) (so.push n ⟨[], upd_same, rfl, rfl⟩) ⟨q, by unfold Io.get Io.push; rw [← so.len]; exact List.getElem?_concat_length, rfl⟩
/-! ### calls of built-in functions -/
theorem bf_ok (g : Good G C X W) (f : Bf) : (∃ id, bootBuiltins (bfName f) = some (.builtin id) ∧ CallR X (.builtin id) (rN X.K (bf f))) ∨ ∃ T, bootBuiltins (bfName f) = some (.type T) ∧ CallR X (.type T) (rN X.K (bf f)) := by
  have hc := g.calm
  cases f
  · exact .inl ⟨"len", rfl, len_s⟩
  · exact .inl ⟨"all", rfl, all_s hc⟩
  · exact .inl ⟨"any", rfl, any_s hc⟩
  · exact .inr ⟨"int", rfl, int_s⟩
  · exact .inl ⟨"abs", rfl, abs_s⟩
  · exact .inl ⟨"max", rfl, max_s hc⟩
  · exact .inl ⟨"min", rfl, min_s hc⟩
  · exact .inr ⟨"list", rfl, list_s⟩
  · exact .inr ⟨"list", rfl, listM_s⟩
  · exact .inr ⟨"tuple", rfl, tuple_s⟩
  · exact .inl ⟨"isinstance", rfl, isi_s⟩
  · exact .inl ⟨"repr", rfl, repr_s g.hu g.gd g.sysm⟩
  · exact .inl ⟨"len", rfl, lenT_s⟩
  · exact .inl ⟨"sorted", rfl, sortD_s hc⟩
  · exact .inr ⟨"dict", rfl, dict_s hc⟩
theorem pe_bf2 (g : Good G C X W) (f : Bf) {y : Str} {p : Pos} (hy : y = bfName f) (hg : glB X.env.scope y = true) (hm : X.mg y = none) (ha : PA X (a :: es) (tA X.K W ms)) (hs : ∀ e ∈ a :: es, notStar e = true) :
    PE X (.Call (.Name y p) (a :: es) [] pos) (tE X.K W fun en st => (ms en st).bind fun ds st => shut (bf f ds st)) := by
  obtain ⟨g1, g2⟩ := gl_of hg
  obtain ⟨n1, n2, n3⟩ := nm_of g2
  have he := star_of (hs a (by simp)) es X.env
  have hp : (backTo pos (starEach es X.env)).any (·.1) = false := plain_of fun e h => hs e (List.mem_cons_of_mem _ h)
  have im : ∀ σ H Q, tE X.K W (fun en st => (ms en st).bind fun ds st => Mi.shut (bf f ds st)) σ H Q → tCB (rN X.K (bf f)) (tA X.K W ms) σ H Q := fun σ H Q h => (tG.step (Rp := RpL X.K) h).mono fun vs H1 ⟨en, ds, io, st, er, so, rd, p⟩ => ⟨ds, st, io, so, rd, p.shut⟩
  rcases bf_ok g f with ⟨id, hb, hc⟩ | ⟨T, hb, hc⟩
  · exact PEimp (pe_callB hc g1 hm (by rw [hy]; exact hb) ha n3 n1 he hp) im
  · exact PEimp (pe_callTy hc g1 hm (by rw [hy]; exact hb) ha n3 n1 he hp) im
/-! ### calls of own defs -/
theorem pe_own2 (g : Good G C X W) {y : Nat} {ps : List Str} {p : Pos} (hg : glB X.env.scope (nm y) = true) (hy : y < 10000) (hf : G.fns.lookup y = some ps) (ha : PA X (a :: es) (tA X.K W ms)) (hs : ∀ e ∈ a :: es, notStar e = true) :
    PE X (.Call (.Name (nm y) p) (a :: es) [] pos) (tE X.K W fun en st => (ms en st).bind fun ds st => C y ds st) := by
  obtain ⟨g1, g2⟩ := gl_of hg
  obtain ⟨n1, n2, n3⟩ := nm_of g2
  obtain ⟨k, hr, hall⟩ := g.glo_
  obtain ⟨hm, hk, F⟩ := hall y ps hy hf
  refine PEimp (pe_callG F hr g.tk g1 hm hk ha n1 (star_of (hs a (by simp)) es X.env) (plain_of fun e h => hs e (List.mem_cons_of_mem _ h))) fun σ H Q h => ?_
  exact (tG.step (Rp := RpL X.K) h).mono fun vs H1 ⟨en, ds, io, st, er, so, rd, p⟩ => ⟨ds, st, io, so, rd, p⟩
theorem pe_own0 (g : Good G C X W) {y : Nat} {ps : List Str} {p : Pos} (hg : glB X.env.scope (nm y) = true) (hy : y < 10000) (hf : G.fns.lookup y = some ps) :
    PE X (.Call (.Name (nm y) p) [] [] pos) (tE X.K W fun _ st => C y [] st) := by
  obtain ⟨g1, g2⟩ := gl_of hg
  obtain ⟨n1, n2, n3⟩ := nm_of g2
  obtain ⟨k, hr, hall⟩ := g.glo_
  obtain ⟨hm, hk, F⟩ := hall y ps hy hf
  exact PEimp (pe_callG0 F hr g.tk g1 hm hk n1) fun σ H Q ⟨en, st, io, er, so, p⟩ => ⟨[], st, io, so, rfl, p⟩
theorem pe_ownK (g : Good G C X W) {y : Nat} {kn : Str} {p kpos : Pos} (hg : glB X.env.scope (nm y) = true) (hy : y < 10000) (hf : G.fns.lookup y = some [kn]) (ha : PE X a (tE X.K W ma)) :
    PE X (.Call (.Name (nm y) p) [] [⟨some kn, a, kpos⟩] pos) (tE X.K W fun en st => (ma en st).bind fun d st => C y [d] st) := by
  obtain ⟨g1, g2⟩ := gl_of hg
  obtain ⟨n1, n2, n3⟩ := nm_of g2
  obtain ⟨k, hr, hall⟩ := g.glo_
  obtain ⟨hm, hk, F⟩ := hall y _ hy hf
  refine PEimp (pe_callKG F hr g.tk g1 hm hk ha n1) fun σ H Q h => ?_
  exact (tG.step (Rp := RpD X.K) h).mono fun v H1 ⟨en, d, io, st, er, so, rd, p⟩ => ⟨[d], st, io, so, .cons rd .nil, p⟩
theorem pe_ownV (g : Good G C X W) {i : Nat} {y : Str} {p : Pos} (hv : varB X.N X.env.scope i y = true) (ha : PA X (a :: es) (tA X.K W ms)) (hs : ∀ e ∈ a :: es, notStar e = true) :
    PE X (.Call (.Name y p) (a :: es) [] pos) (tE X.K W fun en st => (match en[i]? with
    | some (some (.glo f)) => if (decide (f < 10000) && (G.fns.lookup f).isSome) = true then (ms en st).bind fun ds st => C f ds st else .bad
    | _ => .bad)) := by
  unfold varB at hv
  simp only [Bool.and_eq_true, decide_eq_true_eq] at hv
  obtain ⟨⟨h1, h2⟩, h3⟩ := hv
  obtain ⟨n1, n2, n3⟩ := nm_of h3
  obtain ⟨k, hr, hall⟩ := g.glo_
  refine PEimp (pe_callVG hr g.tk h1 (vis_of h2) ha n1 n2 (star_of (hs a (by simp)) es X.env) (plain_of fun e h => hs e (List.mem_cons_of_mem _ h))) fun σ H Q ⟨en, st, io, er, so, p⟩ => ?_
  dsimp only at p
  have bad : ∀ {P : Prop}, (match en[i]? with
    | some (some (.glo f)) => if (decide (f < 10000) && (G.fns.lookup f).isSome) = true then (ms en st).bind fun ds st => C f ds st else R.bad
    | _ => R.bad) = R.bad → P := fun e => by rw [e] at p; exact p.elim
  cases e : en[i]? with
  | none => exact bad (by rw [e])
  | some o =>
    cases o with
    | none => exact bad (by rw [e])
    | some d =>
      cases d with
      | glo f =>
        by_cases hl : f < 10000
        case neg => exact bad (by simp [e, hl])
        cases hf : G.fns.lookup f with
        | none => exact bad (by simp [e, hf])
        | some ps =>
          rw [show (match en[i]? with
            | some (some (.glo f)) => if (decide (f < 10000) && (G.fns.lookup f).isSome) = true then (ms en st).bind fun ds st => C f ds st else R.bad
            | _ => R.bad) = (ms en st).bind fun ds st => C f ds st by simp [e, hf, hl]] at p
          obtain ⟨v, e2, r⟩ := er.2 _ _ e
          cases r
          obtain ⟨hm, hk, F⟩ := hall f _ hl hf
          refine ⟨_, ps, C f, e2, F, hk, en, st, io, er, so, ?_⟩
          exact (Post.bind (Rp := RpL X.K) p).mono fun vs H1 ⟨ds, io1, st1, x, so1, rd, p1⟩ => ⟨ds, st1, io1, so1, rd, p1⟩
      | _ => exact bad (by rw [e])
end
section
variable {X : Cx} {W : WX} {a : Expr} {ma : En → Sto → R D} {p1 p2 p3 pos : Pos}
theorem pe_sset2 (hc : X.calm = true) (g1 : Gl X "sorted") (m1 : X.mg "sorted" = none) (g2 : Gl X "set") (m2 : X.mg "set" = none) (ha : PE X a (tE X.K W ma)) (hs : starEach [a] X.env = (false, eval a X.env) :: starEach [] X.env) :
    PE X (.Call (.Name "sorted" p1) [.Call (.Name "set" p2) [a] [] p3] [] pos) (tE X.K W fun en st => (ma en st).bind fun x st => shut (ssetD x st)) := by
  refine PEimp (pe_callB (cr_sortedSet hc) g1 m1 rfl (pa_cons (pe_callTy (cr_setTI hc) g2 m2 rfl (pa_cons ha pa_nil hs) (by decide) (by decide) hs rfl) pa_nil)) fun σ H Q h => ?_
  refine (tG.step (Rp := RpD X.K) h).mono fun v H1 ⟨en, d, io, st, er, so, rd, p⟩ => ?_
  unfold ssetD at p
  split at p
  · rename_i ds
    obtain ⟨b, xs, rfl, hq, rl⟩ := rd
    cases hi : intsOf ds with
    | none => rw [hi] at p; exact p.elim
    | some ns =>
      rw [hi] at p
      by_cases hl : ns.length < 64
      · simp only [hl, if_true] at p
        have ex := rl.ints (intsOf_eq hi)
        subst ex
        refine ⟨b, ns, rfl, .of hq, by omega, fun q c hcn hn => ⟨q, _, c, rfl, upd_same, by omega, fun ns' q' up mem len hn' => ?_⟩⟩
        have e : ns' = sortU ns := up_eq up (sortU_up ns) fun z => by rw [mem, mem_sortU]; simp
        subst e
        have x1 := Ext.fresh so hn (SetO X.w q (fun j => decide (j ∈ ns)) c)
        have s1 := so.fresh hn (SetO X.w q (fun j => decide (j ∈ ns)) c)
        refine p _ io _ (x1.trans (Ext.fresh s1 hn' _)) (s1.fresh hn' _) ⟨q', _, rfl, ⟨upd_same, s1.free hn'⟩, ?_⟩
        exact RepL.map (f := D.int) (g := V.int) (fun i => rfl) _
      · simp only [hl, if_false] at p; exact p.elim
  · exact p.elim
theorem pe_upper2 {apos : Pos} (ha : PE X a (tE X.K W ma)) (hb : attributeBase a "upper" X.env (eval a X.env) = eval a X.env) (hl : (apos.endLine == pos.line) = true) :
    PE X (.Call (.Attribute a "upper" apos) [] [] pos) (tE X.K W fun en st => (ma en st).bind fun x st => shut (upperD x st)) := by
  refine PEimp (pe_upper ha hb hl) fun σ H Q h => (tG.step (Rp := RpD X.K) h).mono fun v H1 ⟨en, d, io, st, er, so, rd, p⟩ => ?_
  cases d <;> first | exact p.elim | skip
  rename_i z
  cases rd
  simp only [upperD] at p
  by_cases hz : z.length ≤ 5592405
  · rw [if_pos hz] at p
    have hq := (Post.shut (W' := fun c d H' => W c d σ H') p).str so
    rw [str_back] at hq
    exact ⟨⟨_, rfl⟩, _, rfl, rfl, by rw [str_len]; exact hz, hq⟩
  · rw [if_neg hz] at p; exact p.elim
end
end Mi

set_option maxRecDepth 100000
set_option maxHeartbeats 4000000
namespace Mi
open PySem PySem.Spec L2

/-! ### targets -/
theorem wipe_in {σ : St} {i : Nat} : ∀ {vs : List Nat}, i ∈ vs → (L2.wipe σ vs)[i]? = (σ[i]?).map fun _ => none
  | [], h => by simp at h
  | v :: vs, h => by
    unfold L2.wipe
    by_cases e : v = i
    · subst e
      by_cases hl : v < σ.length
      · rw [List.getElem?_set_self (by rw [L2.wipe_length]; exact hl), List.getElem?_eq_getElem hl]; rfl
      · rw [List.getElem?_eq_none (by simpa [L2.wipe_length] using hl), List.getElem?_eq_none (by simpa using hl)]; rfl
    · rw [List.getElem?_set_ne e]
      exact wipe_in (by simpa [Ne.symm e] using h)
theorem wipe_set {σ : St} {i : Nat} {vs : List Nat} (h : i ∈ vs) (v : Option V) : L2.wipe (σ.set i v) vs = L2.wipe σ vs := by
  apply List.ext_getElem?
  intro j
  by_cases hj : j ∈ vs
  · rw [wipe_in hj, wipe_in hj]
    by_cases e : i = j
    · subst e
      by_cases hl : i < σ.length
      · rw [List.getElem?_set_self hl, List.getElem?_eq_getElem hl]; rfl
      · rw [List.getElem?_eq_none (by simpa using hl), List.getElem?_eq_none (by simpa using hl)]
    · rw [List.getElem?_set_ne e]
  · rw [L2.wipe_out hj, L2.wipe_out hj, List.getElem?_set_ne (fun e => hj (by rw [← e]; exact h))]
theorem wipe_wipe {σ : St} {vs : List Nat} : L2.wipe (L2.wipe σ vs) vs = L2.wipe σ vs := by
  apply List.ext_getElem?
  intro j
  by_cases hj : j ∈ vs
  · rw [wipe_in hj, wipe_in hj]
    cases σ[j]? <;> rfl
  · rw [L2.wipe_out hj]
def gT (K : PySem.W.Frag) (is : List Nat) (un : Bool) : TG := fun v σ H Q => ∃ en io d en', EnvR K H io en σ ∧ Rep K H io d v ∧ setT is un d en = some en' ∧
  ∀ σ', EnvR K H io en' σ' → (∀ vs : List Nat, (∀ i ∈ is, i ∈ vs) → L2.wipe σ' vs = L2.wipe σ vs) → Q σ' H
def gTs (K : PySem.W.Frag) (is : List Nat) : TGs := fun v σ H Q => ∃ en io d en', EnvR K H io en σ ∧ RepL K H io d v ∧ setAll is d en = some en' ∧
  ∀ σ', EnvR K H io en' σ' → (∀ vs : List Nat, (∀ i ∈ is, i ∈ vs) → L2.wipe σ' vs = L2.wipe σ vs) → Q σ' H
section
variable {X : Cx} {W : WX} {fnc : Str → Bool}
theorem PGimp {e : Expr} {t t' : TG} (h : PG X e t) (i : ∀ v σ H Q, t' v σ H Q → t v σ H Q) : PG X e t' := ⟨fun pins s σ H v u Q I r w => h.run pins s σ H v u Q I r (i _ _ _ _ w)⟩
theorem PGsimp {e : List Expr} {t t' : TGs} (h : PGs X e t) (i : ∀ v σ H Q, t' v σ H Q → t v σ H Q) : PGs X e t' := ⟨fun pins s σ H v u Q I r w => h.run pins s σ H v u Q I r (i _ _ _ _ w)⟩
theorem loc_of {N : List Str} {sc : Scope} {i : Nat} {x : Str} (h : locB N sc fnc i x = true) : N[i]? = some x ∧ Loc sc x ∧ (fnc x = true ∨ sc.names.lookup x = some .local) := by
  unfold locB at h
  simp only [Bool.and_eq_true, decide_eq_true_eq] at h
  obtain ⟨h1, h2⟩ := h
  split at h2
  · exact ⟨h1, .inl (by assumption), .inr (by assumption)⟩
  · exact ⟨h1, .inr (by assumption), .inl h2⟩
  · cases h2
theorem pg_nm (hN : X.N.Nodup) (hf : ∀ x, fnc x = true → X.fn x = true) {i : Nat} {x : Str} {pos : Pos} (h : locB X.N X.env.scope fnc i x = true) : PG X (.Name x pos) (gName i) := by
  obtain ⟨h1, h2, h3⟩ := loc_of h
  exact pg_name hN h1 h2 (h3.imp (hf x) id)
theorem pgs_ok (hN : X.N.Nodup) (hf : ∀ x, fnc x = true → X.fn x = true) : ∀ (is : List Nat) (es : List Expr), ckts X.N X.env.scope fnc is es = true → PGs X es (gTs X.K is) ∧ (assignEach es X.env).length = is.length ∧ (assignEach es X.env).findIdx? (·.1) = none
  | [], [], _ => ⟨PGsimp pgs_nil fun v σ H Q ⟨en, io, d, en', er, r, e, q⟩ => by
    cases d with
    | nil => cases r; cases e; exact ⟨rfl, q σ er fun _ _ => rfl⟩
    | cons _ _ => simp [setAll] at e, rfl, rfl⟩
  | i :: is, .Name x pos :: es, h => by
    unfold ckts at h
    rw [Bool.and_eq_true] at h
    obtain ⟨h1, h2, h3⟩ := pgs_ok hN hf is es h.2
    refine ⟨PGsimp (pgs_cons (pg_nm hN hf h.1) h1) fun v σ H Q ⟨en, io, d, en', er, r, e, q⟩ => ?_, ?_, ?_⟩
    · cases d with
      | nil => simp [setAll] at e
      | cons d ds =>
        obtain ⟨u, us, rfl, r1, r2⟩ := r
        refine ⟨u, us, rfl, ?_⟩
        exact ⟨en.set i (some d), io, ds, en', er.set r1, r2, e, fun σ' er' w => q σ' er' fun vs hv => (w vs fun j hj => hv j (List.mem_cons_of_mem _ hj)).trans (wipe_set (hv i (by simp)) _)⟩
    · show ((false, assign (.Name x pos) X.env) :: assignEach es X.env).length = _
      rw [List.length_cons, h2, List.length_cons]
    · show ((false, assign (.Name x pos) X.env) :: assignEach es X.env).findIdx? (·.1) = none
      rw [List.findIdx?_cons, h3]
      rfl
  | [], _ :: _, h => by simp [ckts] at h
  | _ :: _, [], h => by simp [ckts] at h
theorem pg_ok (hc : X.calm = true) (hN : X.N.Nodup) (hf : ∀ x, fnc x = true → X.fn x = true) {is : List Nat} {un : Bool} {tg : Expr} (h : ckt X.N X.env.scope fnc is un tg = true) : PG X tg (gT X.K is un) := by
  unfold ckt at h
  split at h
  · rename_i i x pos
    refine PGimp (pg_nm hN hf h) fun v σ H Q ⟨en, io, d, en', er, r, e, q⟩ => ?_
    cases e
    exact q _ (er.set r) fun vs hv => wipe_set (hv i (by simp)) _
  · rename_i is es k pos
    obtain ⟨h1, h2, h3⟩ := pgs_ok hN hf _ es h
    refine PGimp (pg_tup hc h1 h2 h3) fun v σ H Q ⟨en, io, d, en', er, r, e, q⟩ => ?_
    cases d <;> first | (simp [setT] at e; done) | skip
    obtain ⟨a, xs, rfl, hq, rl⟩ := r
    have e' : setAll _ _ en = some en' := e
    refine ⟨a, xs, rfl, .of hq, ?_, en, io, _, en', er, rl, e', q⟩
    rw [← rl.len]
    have : ∀ (is : List Nat) (ds : List D) (en en' : En), setAll is ds en = some en' → ds.length = is.length := by
      intro is
      induction is with
      | nil => intro ds en en' h; cases ds with | nil => rfl | cons _ _ => simp [setAll] at h
      | cons i is ih => intro ds en en' h; cases ds with | nil => simp [setAll] at h | cons d ds => rw [List.length_cons, List.length_cons, ih ds _ _ h]
    exact this _ _ _ _ e'
  · cases h
end

/-! ### a comprehension -/
abbrev WF : WX := fun _ _ _ _ => False
theorem takes_WF (X : Cx) : Takes X WF := fun u s' ⟨a, B, sI, pins, σ, H, cls, d, _, _, _, _, _, _, _, _, w⟩ => w.elim
theorem Good.blk {G : Gs} {C : Call} {X : Cx} {W : WX} (g : Good G C X W) {scope : Scope} (hk : scope.kind = .function) (s : Shared) (H : Hp) (Cc : Addr) (cl : List (Str × Addr)) (fp : List Addr) : Good G C (X.blk s H scope (compEnvC scope cl Cc X.env) fp) WF where
  calm := g.calm
  nd := g.nd
  kind := hk
  lev := g.lev
  fld := g.fld
  no := g.no
  glo := g.glo
  tk := takes_WF _
  sysm := g.sysm
  itr := g.itr
  exc := g.exc
  exh := g.exh
  dic := g.dic
theorem shut_bind {α β : Type} {r : R α} {f : α → Sto → R β} {K : PySem.W.Frag} {io : Io} {H : Hp} {W : XK} {γ : Type} {Rp : Hp → Io → β → γ → Prop} {Q : γ → Hp → Prop} (p : Post K io H W Rp ((shut r).bind f) Q) : ∃ a st, r = .ok a st ∧ Post K io H W Rp (f a st) Q := by
  cases r with
  | ok a st => exact ⟨a, st, rfl, p⟩
  | exc _ _ => exact p.elim
  | bad => exact p.elim
theorem bind_ok_inv {α β : Type} {r : R α} {f : α → Sto → R β} {b : β} {st : Sto} (h : r.bind f = .ok b st) : ∃ a s1, r = .ok a s1 ∧ f a s1 = .ok b st := by
  cases r with
  | ok a s1 => exact ⟨a, s1, rfl, h⟩
  | exc _ _ => cases h
  | bad => cases h
section
variable {X : Cx} {W : WX} {G : Gs} {C : Call} {elt tg iter : Expr} {ifs : List Expr} {scope : Scope} {own : List (Str × Nat)} {pos : Pos} {k : Ik} {is : List Nat} {un : Bool} {ms : En → Sto → R (List D)} {mc : En → Sto → R Bool} {me : En → Sto → R D}
theorem lc_imp {K : PySem.W.Frag} (hsub : ∀ i ∈ is, i ∈ own.map (·.2)) {σ : St} {H : Hp} {Q : VK} (h : tE K W (fun en st => (ms en st).bind fun ds st => (match walkOf G k ds st with
    | none => .bad
    | some xs => (shut (lcRun is un mc me xs (wipeE en (own.map (·.2))) st [])).bind fun ds st => .ok (.lst ds) st)) σ H Q) :
    tLc (iI K W fun en st => (ms en st).bind fun ds st => ofL (walkOf G k ds st) st) (gT K is un) (tT K WF mc) (tE K WF me) (own.map (·.2)) σ H Q := by
  have h' : tG K W (RpD K) (fun en st => ((ms en st).bind fun ds st => ofL (walkOf G k ds st) st).bind fun xs st => (shut (lcRun is un mc me xs (wipeE en (own.map (·.2))) st [])).bind fun ds st => .ok (.lst ds) st) σ H Q := tG.imp h fun en st => by
    cases ms en st with
    | ok ds st =>
      simp only [R.bind_ok]
      cases walkOf G k ds st <;> rfl
    | exc _ _ => rfl
    | bad => rfl
  refine (tG.step (Rp := RpY K) h').mono fun J H1 ⟨en, xs, io, st, er, so, y, p⟩ => ?_
  intro L hD
  obtain ⟨ds, stf, etot, p2⟩ := shut_bind p
  generalize hvs : own.map (·.2) = vs at *
  have hDi : L ∉ io := so.free hD
  let Wi : Nat → Hp → Prop := fun i Hc => ∃ (i2 : Io) (st2 : Sto) (acc : List D) (accv : List V), Ext io H1 i2 Hc ∧ StOk K Hc (i2.hide L) st2 ∧ Hc L = some (.lst accv) ∧ RepL K Hc (i2.hide L) acc accv ∧
    EnvR K Hc (i2.hide L) (wipeE en vs) (L2.wipe σ vs) ∧ lcRun is un mc me (xs.drop i) (wipeE en vs) st2 acc = .ok ds stf
  refine ⟨fun i m Hc => m = xs.length - i ∧ i ≤ xs.length ∧ Wi i Hc, ⟨xs.length, rfl, Nat.zero_le _, io, st, [], [], Ext.fresh so hD _, so.hide hD, upd_same, rfl, (er.wipe vs).mv (Mv.hide hD _), etot⟩, ?_⟩
  rintro i m Hc ⟨rfl, hi, i2, st2, acc, accv, x2, so2, hDc, rl2, er2, run2⟩
  by_cases hlt : i < xs.length
  · have mv2 : Mv io H1 (i2.hide L) Hc := x2.mv.under hD
    refine .inr ⟨y.go _ _ i mv2 hlt, Wi (i + 1), fun H' w => ⟨xs.length - (i + 1), by omega, rfl, hlt, w⟩, fun v H'' yl => ?_⟩
    have hxi : xs[i]? = some xs[i] := List.getElem?_eq_getElem hlt
    obtain ⟨x3, so3, rd⟩ := y.yld _ _ st2 i _ v H'' mv2 so2 hxi yl
    rw [List.drop_eq_getElem_cons hlt] at run2
    unfold lcRun at run2
    cases es : setT is un xs[i] (wipeE en vs) with
    | none => rw [es] at run2; cases run2
    | some en' =>
      rw [es] at run2
      obtain ⟨b, st3, ec, run3⟩ := bind_ok_inv run2
      refine ⟨wipeE en vs, i2.hide L, xs[i], en', er2.ext x3, rd, es, fun σ2 erA hw => ⟨(hw vs fun j hj => hvs ▸ hsub j hj).trans wipe_wipe, en', st2, i2.hide L, erA, so3, ?_⟩⟩
      rw [ec]
      intro b' io4 H4 x4 so4 eb
      cases eb
      have hh4 : io4 = Io.hide ⟨io4.l, i2.h⟩ L := by
        have e := x4.same
        cases io4
        simp only at e
        subst e
        rfl
      have xa : Ext io H1 i2 H'' := (Ext.under x2 hD hDi x3 : Ext io H1 ⟨(i2.hide L).l, i2.h⟩ H'')
      have xb : Ext io H1 ⟨io4.l, i2.h⟩ H4 := Ext.under xa hD hDi x4
      have hD3 : H'' L = some (.lst accv) := by rw [(x3.hid L List.mem_cons_self (so2.hs L List.mem_cons_self).1).1]; exact hDc
      have hD4 : H4 L = some (.lst accv) := by rw [(x4.hid L List.mem_cons_self (so3.hs L List.mem_cons_self).1).1]; exact hD3
      have rl4 := RepL.ext x4 _ _ (RepL.ext x3 _ _ rl2)
      have er4 := (er2.ext x3).ext x4
      cases b with
      | false =>
        rw [if_neg (by decide)]
        rw [hh4] at so4 rl4 er4
        exact ⟨_, st3, acc, accv, xb, so4, hD4, rl4, er4, run3⟩
      | true =>
        rw [if_pos rfl]
        obtain ⟨yv, st5, ee, run4⟩ := bind_ok_inv run3
        refine ⟨en', st3, io4, erA.ext x4, so4, ?_⟩
        rw [ee]
        intro w io5 H5 x5 so5 rw5
        rw [hh4] at x5 so4 rl4 er4
        by_cases hz : acc.length < sz
        · rw [if_pos hz] at run4
          have hh5 : io5 = Io.hide ⟨io5.l, i2.h⟩ L := by
            have e := x5.same
            cases io5
            simp only at e
            subst e
            rfl
          have xc : Ext io H1 ⟨io5.l, i2.h⟩ H5 := Ext.under (i1 := ⟨io4.l, i2.h⟩) xb hD hDi x5
          have hD5 : H5 L = some (.lst accv) := by rw [(x5.hid L List.mem_cons_self (so4.hs L List.mem_cons_self).1).1]; exact hD4
          have rl5 := RepL.ext x5 _ _ rl4
          have er5 := er4.ext x5
          rw [hh5] at so5 rl5 er5 rw5
          refine ⟨accv, hD5, by rw [← rl5.len, ← sz_eq]; exact hz, _, st5, acc ++ [yv], accv ++ [w], xc.poke hD hDi _, so5.hidden hD5, upd_same, RepL.mv (Mv.hidden hD5 _) _ _ (rl5.append (.cons rw5 .nil)), er5.mv (Mv.hidden hD5 _), run4⟩
        · rw [if_neg hz] at run4; cases run4
  · have e : i = xs.length := by omega
    subst e
    rw [List.drop_length] at run2
    have run2' : R.ok acc st2 = R.ok ds stf := run2
    cases run2'
    refine .inl ⟨y.stop _ _ (x2.mv), p2 (.ref L) i2 Hc x2 so2.show_ ⟨L, accv, rfl, ⟨hDc, fun hm => ?_⟩, RepL.mv Mv.show_ _ _ rl2⟩⟩
    rcases hm with hm | hm
    · exact (so2.hs L List.mem_cons_self).1 hm
    · exact hDi (.inr (by rw [← x2.same]; exact hm))
theorem pe_lcM (g : Good G C X W) (hi : PI X tg iter (iI X.K W fun en st => (ms en st).bind fun ds st => ofL (walkOf G k ds st) st)) (ok : BlkOk X.N X.env.scope scope own)
    (hg : ∀ (s : Shared) (H : Hp) (Cc : Addr) (cl : List (Str × Addr)) (fp : List Addr), PG (X.blk s H scope (compEnvC scope cl Cc X.env) fp) tg (gT X.K is un))
    (ht : ∀ (s : Shared) (H : Hp) (Cc : Addr) (cl : List (Str × Addr)) (fp : List Addr), PTs (X.blk s H scope (compEnvC scope cl Cc X.env) fp) ifs (tT X.K WF mc))
    (he : ∀ (s : Shared) (H : Hp) (Cc : Addr) (cl : List (Str × Addr)) (fp : List Addr), PE (X.blk s H scope (compEnvC scope cl Cc X.env) fp) elt (tE X.K WF me))
    (hsub : ∀ i ∈ is, i ∈ own.map (·.2)) (hs : ∀ x, foldedSetIterable iter X.env x = pure x) :
    PE X (.ListComp elt [⟨tg, iter, ifs, 0⟩] scope pos) (tE X.K W fun en st => (ms en st).bind fun ds st => (match walkOf G k ds st with
    | none => .bad
    | some xs => (shut (lcRun is un mc me xs (wipeE en (own.map (·.2))) st [])).bind fun ds st => .ok (.lst ds) st)) :=
  PEimp (pe_lc g.calm g.nd hi ok hg ht he hs) fun σ H Q h => lc_imp hsub h
end
end Mi

set_option maxRecDepth 100000
set_option maxHeartbeats 4000000
/-! objects of own classes: fields, methods, new ones; methods of built-in types; displays with stars -/
namespace Mi
open PySem PySem.Spec L2
section
variable {X : Cx} {W : WX} {a : Expr} {ma : En → Sto → R D} {F : Fld} {f : Nat} {pos : Pos}
theorem pe_attr2 (hF : FldOk X.K F) (ha : PE X a (tE X.K W ma)) (hb : attributeBase a (nm f) X.env (eval a X.env) = eval a X.env) : PE X (.Attribute a (nm f) pos) (tE X.K W fun en st => (ma en st).bind fun x st => shut (fldD F f x st)) := by
  refine PEimp (pe_fld ha hb) fun σ H Q h => (tG.step (Rp := RpD X.K) h).mono fun v H1 ⟨en, d, io, st, er, so, rd, p⟩ => ?_
  have p' := Post.shut (W' := fun c d H' => W c d σ H') p
  cases e : fldD F f d st with
  | ok y st' =>
    rw [e] at p'
    obtain ⟨rfl, a, C, dx, fs, u, _, rfl, eH, c1, c2, l, r⟩ := fldD_at hF e so rd
    exact ⟨a, _, dx, fs, u, rfl, eH, c1, c2, l, p' u io H1 (Ext.refl _ _) so r⟩
  | exc _ _ => rw [e] at p; exact p.elim
  | bad => rw [e] at p; exact p.elim
end
theorem form_ok {args : List Expr} {env : Env} {pos : Pos} (hs : ∀ e ∈ args, notStar e = true) (hn : args.length < 30) : methodCallForm (args.length + ([] : List Keyword).length) (backTo pos (starEach args env)) (backToKw pos (keywordEach [] env)) = true := by
  have h1 : (backTo pos (starEach args env)).all (!·.1) = true := by
    have hp : (backTo pos (starEach args env)).any (·.1) = false := plain_of hs
    rw [List.all_eq_true]
    intro x hx
    rw [List.any_eq_false] at hp
    have := hp x hx
    simpa using this
  unfold methodCallForm
  rw [h1]
  show (true && true && _) = true
  simp
  exact hn
theorem mcall2 {o : Expr} {m : Str} {apos pos : Pos} {args : List Expr} {env : Env} (hb : attributeBase o m env (eval o env) = eval o env) (hs : ∀ e ∈ args, notStar e = true) (hn : args.length < 30) (hl : (apos.endLine == pos.line) = true) :
    eval (.Call (.Attribute o m apos) args [] pos) env = (do
      let ov ← eval o env
      standAt apos.atName
      let (f, first) ← holding [ov] (getMethod ov m (do return (← importBound o env).getD true))
      callWith pos f first (backTo pos (starEach args env)) (backToKw pos (keywordEach [] env))) := by
  refine mcall_of hb fun ov => ?_
  unfold methodCall
  rw [form_ok hs hn]
  simp only [methodCallPos, calleeOf, hl, Bool.not_true, Bool.false_or, if_true, pure_bind]

/-- a method of a class -/
structure MetG (X : Cx) (C : Call) (k : Nat) (c m : Nat) : Prop where
  cls : Cls X.K (He.ga X.K (nm c))
  met : Meth X.K (He.ga X.K (nm c)) (nm m) (He.ma X.K (He.ga X.K (nm c)) (nm m))
  lt : m < 1104
  fn : ∃ ps, FnG X.prog X.w X.K X.mg X.base k (He.ma X.K (He.ga X.K (nm c)) (nm m)) ps (C (c * 10000 + m))
section
variable {X : Cx} {W : WX} {C : Call} {k : Nat} {o e : Expr} {es : List Expr} {mo : En → Sto → R D} {ms : En → Sto → R (List D)} {m : Nat} {pos apos : Pos} {M : Nat → Nat → Bool}
section
variable (hr : RoomG k X.A) (tk : Takes X W) (hm : m < 1104) (hM : ∀ c, M c m = true → MetG X C k c m) (ho : PE X o (tE X.K W mo)) (hb : okBase o = true) (hl : (apos.endLine == pos.line) = true)
include hr tk hm hM ho hb hl
theorem pe_metG (ha : PA X (e :: es) (tA X.K W ms)) (hs : ∀ x ∈ e :: es, notStar x = true) (hn : (e :: es).length < 30) :
    PE X (.Call (.Attribute o (nm m) apos) (e :: es) [] pos) (tE X.K W (metR M C m mo ms)) := by
  refine ⟨fun pins s σ H Q I h => ?_⟩
  refine PySem.W.methodCall_KW (thn (ho.run pins s σ H _ I (tG.step (Rp := RpD X.K) h)) fun u s1 ⟨v, H1, I1, ru, en, x, io1, st0, er, so, rx, p⟩ => ?_) (mcall2 (base_of hb) hs hn hl)
  cases q : recvD M m x st0 with
  | none => rw [q] at p; exact p.elim
  | some key =>
    rw [q] at p
    obtain ⟨c, a, dx, gs, hMc, rfl, rfl, ea, hlk⟩ := recvD_at hm q so rx
    obtain rfl : u = Value.ref a := ru
    have g := hM c hMc
    obtain ⟨ps, F⟩ := g.fn
    refine getmeth_ok I1 ea g.cls g.met hlk ?_
    have p1 := Post.bind (Rp := RpL X.K) p
    have hst := star_of (hs e (by simp)) es X.env
    have hpl : (backTo pos (starEach es X.env)).any (·.1) = false := plain_of fun e h => hs e (List.mem_cons_of_mem _ h)
    refine PySem.W.callWith_K (first := [.ref a]) (h₀ := X.base) I1.ok.mod.kin g.met.kp (thn (ha.run pos pins s1 σ H1 _ I1 ⟨en, st0, io1, er, so, p1⟩) fun us s2 ⟨vs, H2, I2, r, ds, io2, st2, x2, so2, rl, q⟩ => ⟨I2.kIn, ?_⟩) hst hpl
    exact call_fnG (us := .ref a :: us) (vs := .ref a :: vs) F hr tk I2 (.cons rfl r) so2 (.cons (Rep.ext x2 _ _ rx) rl) q
theorem pe_metG0 : PE X (.Call (.Attribute o (nm m) apos) [] [] pos) (tE X.K W (metR M C m mo fun _ st => .ok [] st)) := by
  refine ⟨fun pins s σ H Q I h => ?_⟩
  refine PySem.W.methodCall_KW (thn (ho.run pins s σ H _ I (tG.step (Rp := RpD X.K) h)) fun u s1 ⟨v, H1, I1, ru, en, x, io1, st0, er, so, rx, p⟩ => ?_) (mcall2 (base_of hb) (by simp) (by simp) hl)
  cases q : recvD M m x st0 with
  | none => rw [q] at p; exact p.elim
  | some key =>
    rw [q] at p
    obtain ⟨c, a, dx, gs, hMc, rfl, rfl, ea, hlk⟩ := recvD_at hm q so rx
    obtain rfl : u = Value.ref a := ru
    have g := hM c hMc
    obtain ⟨ps, F⟩ := g.fn
    refine getmeth_ok I1 ea g.cls g.met hlk ?_
    exact PySem.W.callWith_K0 (first := [.ref a]) I1.kIn g.met.kp (call_fnG (us := [.ref a]) (vs := [.ref a]) F hr tk I1 (.cons rfl .nil) so (.cons rx .nil) p)
end
/-! ### new objects -/
structure MkG (X : Cx) (C : Call) (k : Nat) (c : Nat) : Prop where
  glo : X.mg (nm c) = some (.ref (He.ga X.K (nm c)))
  mkr : Mk X.K (He.ga X.K (nm c)) (He.ma X.K (He.ga X.K (nm c)) "__init__")
  fn : ∃ ps, FnG X.prog X.w X.K X.mg X.base k (He.ma X.K (He.ga X.K (nm c)) "__init__") ps (C (c * 10000 + 272))
theorem run_makeG {c : Nat} {pins : List (Addr × Obj)} {σ : St} {H : Hp} {s : Shared} {Q : VK} {us : List Value} {vs : List V} {ds : List D} {st : Sto} {io : Io} (g : MkG X C k c) (hr : RoomG (k + 1) X.A) (tk : Takes X W)
    (I : Inv X pins σ H s) (r : Vals vs us) (so : StOk X.K H io st) (rl : RepL X.K H io ds vs) (h : Post X.K io H (fun c d H' => W c d σ H') (RpD X.K) (newR C c ds st) Q) :
    wpAny (model X.prog X.w) X.A (call (.ref (He.ga X.K (nm c))) us) (EP X pins σ Q) X.xe s := by
  obtain ⟨ps, F⟩ := g.fn
  have n1 := I.hok.fresh (Nat.le_refl s.heap.objs.size)
  have n2 := I.hok.fresh (Nat.le_succ s.heap.objs.size)
  have I2 := Inv.made (C := He.ga X.K (nm c)) I
  have hne : s.heap.objs.size + 1 ≠ s.heap.objs.size := Nat.succ_ne_self _
  have x1 := Ext.fresh so n1 (.own (s.heap.objs.size + 1))
  have so1 := so.fresh n1 (.own (s.heap.objs.size + 1))
  have n2' : (upd H s.heap.objs.size (.own (s.heap.objs.size + 1))) (s.heap.objs.size + 1) = none := by rw [upd_ne hne]; exact n2
  have x2 := Ext.push so1 n2' (.ins (He.ga X.K (nm c)) s.heap.objs.size [])
  have so2 : StOk X.K _ (io.push (s.heap.objs.size + 1)) (st ++ [.ins c [] []]) := so1.push (o := .ins (He.ga X.K (nm c)) s.heap.objs.size []) n2' ⟨fun g hg => by simp at hg, s.heap.objs.size, [], upd_same, rfl, rfl⟩
  have rv : Rep X.K (upd (upd H s.heap.objs.size (.own (s.heap.objs.size + 1))) (s.heap.objs.size + 1) (.ins (He.ga X.K (nm c)) s.heap.objs.size [])) (io.push (s.heap.objs.size + 1)) (.loc st.length) (.ref (s.heap.objs.size + 1)) :=
    ⟨s.heap.objs.size + 1, by unfold Io.get Io.push; rw [← so.len]; exact List.getElem?_concat_length, rfl⟩
  have rl2 := RepL.cons rv (RepL.ext (x1.trans x2) _ _ rl)
  have r2 : Vals (V.ref (s.heap.objs.size + 1) :: vs) (Value.ref (s.heap.objs.size + 1) :: us) := .cons rfl r
  have h1 : Post X.K io H (fun c d H' => W c d σ H') (RpD X.K) ((C (c * 10000 + 272) (.loc st.length :: ds) (st ++ [.ins c [] []])).bind fun v st' => match v with
    | .non => .ok (.loc st.length) st'
    | _ => .bad) Q := h
  have h2 := Post.bind (Rp := RpD X.K) (Post.more (x1.trans x2) h1)
  refine wpAny_call (make_map (f := He.ma X.K (He.ga X.K (nm c)) "__init__") I.kIn g.mkr.makes g.mkr.init (beq_iff_eq.mp g.mkr.fn) (codeAny_mono (F.run _ X.stack _ _ ⟨Value.ref (s.heap.objs.size + 1) :: us, []⟩ _ _ _ _ _ _ (fun c d H' => W c d σ H') ⟨hr.room.make _ us [], hr.gd⟩
    (I2.env0.make _ us []) .pl r2 so2 rl2 h2) fun r s' hq' => ?_))
  cases r with
  | error e => exact passAt tk σ pins _ _ e s' I2 hq'
  | ok fl =>
    cases fl with
    | ret u =>
      obtain ⟨v, H', I3, ru, d, io1, st1, x3, so3, rd, p3⟩ := I2.after hq'
      cases d <;> first | exact p3.elim | skip
      cases rd
      have q3 : ∀ (v : V) (io' : Io) (H'' : Hp), Ext io1 H' io' H'' → StOk X.K H'' io' st1 → Rep X.K H'' io' (.loc st.length) v → Q v H'' := p3
      exact ⟨ru, .ref (s.heap.objs.size + 1), H', I3, rfl, q3 _ io1 H' (Ext.refl _ _) so3 (Rep.ext x3 _ _ rv)⟩
    | next => exact False.elim hq'
    | brk => exact False.elim hq'
    | cont => exact False.elim hq'
theorem pe_makeG {c : Nat} {p : Pos} (g : MkG X C k c) (hr : RoomG (k + 1) X.A) (tk : Takes X W) (hg : Gl X (nm c)) (hdb : (nm c == ("__debug__" : Str)) = false) (ha : PA X (e :: es) (tA X.K W ms)) (hs : ∀ x ∈ e :: es, notStar x = true) :
    PE X (.Call (.Name (nm c) p) (e :: es) [] pos) (tE X.K W fun en st => (ms en st).bind fun ds st => newR C c ds st) := by
  refine ⟨fun pins s σ H Q I h => ?_⟩
  refine wpAny_Call_Name_kw (ld_glob I hg g.glo ?_ hdb)
  have hst := star_of (hs e (by simp)) es X.env
  have hpl : (backTo pos (starEach es X.env)).any (·.1) = false := plain_of fun e h => hs e (List.mem_cons_of_mem _ h)
  refine PySem.W.callWith_K (h₀ := X.base) I.ok.mod.kin g.mkr.kp (thn (ha.run pos pins s σ H _ I (tG.step (Rp := RpL X.K) h)) fun us s1 ⟨vs, H1, I1, r, en, ds, io, st, er, so, rl, q⟩ => ⟨I1.kIn, ?_⟩) hst hpl
  exact run_makeG g hr tk I1 r so rl q
end

/-! ### from what is known -/
section
variable {G : Gs} {C : Call} {X : Cx} {W : WX}
theorem nm272 : nm 272 = ("__init__" : Str) := by decide +kernel
theorem Good.lev2 (g : Good G C X W) : ∃ k, RoomG (k + 1) X.A ∧ (∀ c m, m < 1104 → G.M c m = true → MetG X C k c m) ∧ ∀ c, G.I c = true → MkG X C k c := by
  obtain ⟨k, r, h⟩ := g.lev
  refine ⟨k, r, fun c m hm hM => ?_, fun c hc => ?_⟩
  · unfold Gs.M at hM
    simp only [Bool.and_eq_true, decide_eq_true_eq] at hM
    obtain ⟨⟨h0, h2⟩, hM⟩ := hM
    obtain ⟨ps, hp⟩ := Option.isSome_iff_exists.mp hM
    obtain ⟨a, F⟩ := h _ ps hp
    have e1 : (c * 10000 + m) / 10000 = c := by omega
    have e2 : (c * 10000 + m) % 10000 = m := by omega
    obtain ⟨q1, q2⟩ := a.met (by omega) (by omega) (by rw [e2]; exact h2)
    rw [e1] at q1 q2
    rw [e2] at q2
    unfold fnA at F
    rw [if_neg (by omega), if_pos (by omega), e1, e2] at F
    exact ⟨q1, q2, hm, ps, F⟩
  · unfold Gs.I at hc
    simp only [Bool.and_eq_true, decide_eq_true_eq] at hc
    obtain ⟨h0, hc⟩ := hc
    obtain ⟨ps, hp⟩ := Option.isSome_iff_exists.mp hc
    obtain ⟨a, F⟩ := h _ ps hp
    have e1 : (c * 10000 + 272) / 10000 = c := by omega
    have e2 : (c * 10000 + 272) % 10000 = 272 := by omega
    obtain ⟨q1, q2⟩ := a.mkr (by omega) e2
    rw [e1] at q1 q2
    rw [e2, nm272] at q2
    unfold fnA at F
    rw [if_neg (by omega), if_pos (by omega), e1, e2, nm272] at F
    exact ⟨q1, q2, ps, F⟩
end
/-! ### nothing -/
section
variable {X : Cx} {W : WX} {x : Expr} {K : PySem.W.Frag}
theorem tG_bad {α β : Type} {Rp : Hp → Io → α → β → Prop} {σ : St} {H : Hp} {Q : β → Hp → Prop} {P : Prop} (h : tG K W Rp (fun _ _ => (.bad : R α)) σ H Q) : P := by
  obtain ⟨en, st, io, er, so, p⟩ := h
  exact p.elim
theorem pe_junk : PE X x (tE X.K W fun _ _ => .bad) := ⟨fun pins s σ H Q I h => tG_bad h⟩
theorem pt_junk : PT X x (tT X.K W fun _ _ => tru .bad) := ⟨fun pins s σ H Q I h => tG_bad (α := Bool) (Rp := RpB) h⟩
theorem pw_junk : PW X x (tT X.K W fun _ _ => tru .bad) := ⟨fun wh pins s σ H Q I h => tG_bad (α := Bool) (Rp := RpB) h⟩
end
/-! ### displays with stars -/
section
variable {X : Cx} {W : WX} {a : Expr} {es : List Expr} {ma : En → Sto → R D} {ms : En → Sto → R (List D)} {p : Pos}
theorem pa_star2 (ha : PE X a (tE X.K W ma)) (hr : PA X es (tA X.K W ms)) : PA X (.Starred a p :: es) (tA X.K W fun en st => (ma en st).bind fun x st => (match itemsOf x st with
    | some xs => (ms en st).bind fun ys st => .ok (xs ++ ys) st
    | none => .bad)) := by
  refine PAimp (StX.pa_star ha hr rfl) fun σ H Q h => (tG.step (Rp := RpD X.K) h).mono fun v H1 ⟨en, d, io, st, er, so, rd, q⟩ => ?_
  cases hi : itemsOf d st with
  | none => rw [hi] at q; exact q.elim
  | some xs =>
    rw [hi] at q
    obtain ⟨b, ys, rfl, r, hs⟩ := itemsOf_at hi so rd
    refine ⟨b, ys, rfl, hs.symm, en, st, io, er, so, (Post.bind (Rp := RpL X.K) q).mono fun vs H2 ⟨zs, io2, st2, x2, so2, r2, q2⟩ => ?_⟩
    exact q2 _ io2 H2 (Ext.refl _ _) so2 ((RepL.ext x2 _ _ r).append r2)
end
/-! ### a walk over a dict's keys -/
section
theorem keysV_rep {K : PySem.W.Frag} {H : Hp} {io : Io} : ∀ ks : List KeyD, RepL K H io (ks.map keyV) ((ks.map keyOf).map kV)
  | [] => rfl
  | k :: ks => .cons (keyV_rep k) (keysV_rep ks)
theorem zip_at {α β : Type} {f : α → β} {ks : List α} {xs : List V} {i : Nat} {k : β} {v : V} (h : ((ks.map f).zip xs)[i]? = some (k, v)) : ∃ a, ks[i]? = some a ∧ k = f a := by
  rw [List.getElem?_zip_eq_some, List.getElem?_map] at h
  cases e : ks[i]? with
  | none => rw [e] at h; cases h.1
  | some a =>
    rw [e] at h
    exact ⟨a, rfl, (Option.some.inj h.1).symm⟩
theorem yl_keysK {K : PySem.W.Frag} {io : Io} {H : Hp} {a : Addr} {o : Obj} {ks : List KeyD} {xs : List V} (ha : H a = some (.frz o (.dK ((ks.map keyOf).zip xs)))) (hl : ks.length = xs.length) : Yl K (Itk a o ((ks.map keyOf).zip xs)) (ks.map keyV) io H where
  go := fun io' H' i x hi => ⟨x.frzs _ _ _ ha, by simpa [List.length_zip, ← hl] using hi⟩
  stop := fun io' H' x => ⟨x.frzs _ _ _ ha, by simp [List.length_zip, ← hl]⟩
  yld := fun io' H' st i d v H'' x so hd y => by
    obtain ⟨rfl, k, w, e, rfl⟩ := y
    obtain ⟨b, e1, rfl⟩ := zip_at e
    rw [List.getElem?_map, e1] at hd
    cases hd
    exact ⟨Ext.refl _ _, so, keyV_rep b⟩
theorem yl_keysT {K : PySem.W.Frag} {io : Io} {H : Hp} {a : Addr} {o : Obj} {ks : List (List KeyD)} {xs : List V} (ha : H a = some (.frz o (.dT ((ks.map (List.map keyOf)).zip xs)))) (hl : ks.length = xs.length) : Yl K (Itkt a o ((ks.map (List.map keyOf)).zip xs)) (ks.map fun k => .tup (k.map keyV)) io H where
  go := fun io' H' i x hi => ⟨x.frzs _ _ _ ha, by simpa [List.length_zip, ← hl] using hi⟩
  stop := fun io' H' x => ⟨x.frzs _ _ _ ha, by simp [List.length_zip, ← hl]⟩
  yld := fun io' H' st i d v H'' x so hd y => by
    obtain ⟨rfl, k, w, q, e, rfl, hq⟩ := y
    obtain ⟨b, e1, rfl⟩ := zip_at e
    rw [List.getElem?_map, e1] at hd
    cases hd
    exact ⟨Ext.refl _ _, so, ⟨q, _, rfl, hq, keysV_rep b⟩⟩
theorem pi_keysI {X : Cx} {W : WX} {tg e : Expr} {m : En → Sto → R D} (he : PE X e (tE X.K W m)) : PI X tg e (iI X.K W fun en st => (m en st).bind fun d st => ofL (keys1 [d]) st) := by
  refine PIimp (pi_keys he) fun σ H R h => (tG.step (Rp := RpD X.K) h).mono fun v H1 ⟨en, d, io, st, er, so, rd, p⟩ => ?_
  cases d <;> first | (exact p.elim) | skip
  · obtain ⟨a, xs, rfl, ⟨o, ha, _⟩, hl, rl⟩ := rd
    exact ⟨a, o, rfl, .inl ⟨_, ha, p _ io H1 (Ext.refl _ _) so (yl_keysK ha hl)⟩⟩
  · obtain ⟨a, xs, rfl, ⟨o, ha, _⟩, hl, rl⟩ := rd
    exact ⟨a, o, rfl, .inr ⟨_, ha, p _ io H1 (Ext.refl _ _) so (yl_keysT ha hl)⟩⟩
end
/-! ### methods of built-in types -/
section
variable {X : Cx} {W : WX} {o e : Expr} {es : List Expr} {mo : En → Sto → R D} {ms : En → Sto → R (List D)} {apos cpos : Pos}
theorem pe_bmT {T id : String} {name : Str} {to : TE} {t : TA} {r : V → List V → Hp → VK → Prop} {Ty : V → Hp → Prop} (pa : PlainAttrs T) (slot : Slot T name id) (hty : typeOf (.builtin id) = pure (.type "method_descriptor"))
    (hk : ∀ {pins : List (Addr × Obj)} {σ : St} {H : Hp} {s : Shared} {x : V} {v : Value}, Inv X pins σ H s → RelV x v → Ty x H → s.TypeIs v T ∧ ∀ a, v = .ref a → ∃ ob, s.heap.get? a = some ob ∧ ob.dict = none)
    (hm : MtR X id r) (ho : PE X o to) (ha : PA X (e :: es) t) (hbase : attributeBase o name X.env (eval o X.env) = eval o X.env)
    (hfew : ((backTo cpos (starEach (e :: es) X.env)).all (fun x => !x.1) && (backToKw cpos (keywordEach [] X.env)).all (fun x => x.1.isSome)
      && decide ((e :: es).length + ([] : List Keyword).length + (if ([] : List Keyword).isEmpty then 0 else 1) < 30)) = true)
    (hline : (apos.endLine == cpos.line) = true) (hs : starEach (e :: es) X.env = (false, eval e X.env) :: starEach es X.env) (hplain : (backTo cpos (starEach es X.env)).any (·.1) = false) :
    PE X (.Call (.Attribute o name apos) (e :: es) [] cpos) (fun σ H Q => to σ H fun x H1 => Ty x H1 ∧ t σ H1 fun xs H2 => r x xs H2 Q) := by
  refine ⟨fun pins s σ H Q I h => ?_⟩
  refine wpAny_Call_method_late hbase hfew hline rfl (thn (ho.run pins s σ H _ I h) fun v s1 ⟨x, H1, I1, r1, ty, q1⟩ => ?_)
  obtain ⟨h1, h2⟩ := hk I1 r1 ty
  refine ⟨T, id, pa, slot, hty, h1, h2, ?_⟩
  have hA := ha.run cpos pins s1 σ H1 _ I1 q1
  rw [hs] at hA ⊢
  refine Calls.callWith_builtin (by show (false || (backTo cpos (starEach es X.env)).any (·.1)) = false; rw [hplain] <;> rfl) (Calls.evalArgs_plain ?_)
  exact thn hA fun us s2 ⟨vs, H2, I2, r2, q2⟩ => hm pins s2 σ H2 x vs v us Q I2 r1 r2 q2
def bmTy (K : PySem.W.Frag) : Bm → V → Hp → Prop
  | .split, x, H | .lstrip, x, H | .join, x, H | .sindex, x, H => tyV K "str" x H
  | .append, x, H | .extend, x, H | .pop, x, H | .index, x, H => tyV K "list" x H
  | .get, x, H => ∃ a, x = .ref a ∧ IsD H a
  | .update, x, H => tyV K "dict" x H
def bmR (m : Bm) (mo : En → Sto → R D) (ms : En → Sto → R (List D)) (en : En) (st : Sto) : R D := (mo en st).bind fun x st => if bmOk m x st = true then (ms en st).bind fun ds st => Mi.shut (bmD m x ds st) else .bad
theorem bmTy_at {K : PySem.W.Frag} {m : Bm} {H : Hp} {io : Io} {st : Sto} {d : D} {v : V} (h : bmOk m d st = true) (so : StOk K H io st) (r : Rep K H io d v) : bmTy K m v H := by
  have hs : isStrD d = true → tyV K "str" v H := fun h => by
    cases d <;> first | cases h | skip
    cases r
    exact rfl
  have hl : isLocL d st = true → tyV K "list" v H := fun h => by
    unfold isLocL at h
    split at h
    · rename_i k _
      obtain ⟨a, ea, rfl⟩ := r
      split at h
      · rename_i zs hq
        obtain ⟨xs, e1, r1⟩ := so.ob k a _ ea hq
        exact .inl ⟨rfl, xs, .of e1⟩
      · cases h
    · cases h
  cases m
  · exact hs h
  · exact hs h
  · exact hs h
  · exact hl h
  · exact hl h
  · exact hl h
  · obtain ⟨⟨ks, vs⟩, hd⟩ := Option.isSome_iff_exists.mp (show (dictOf d st).isSome = true from h)
    obtain ⟨a, xs, rfl, ha, _⟩ := dictOf_at hd so r
    exact ⟨a, rfl, .inl ⟨_, ha⟩⟩
  · exact hl h
  · have h' : isLocDc d st = true := h
    unfold isLocDc at h'
    split at h'
    · rename_i k
      obtain ⟨a, ea, rfl⟩ := r
      split at h'
      · rename_i ks ws hq
        obtain ⟨xs, e1, _⟩ := so.ob k a _ ea hq
        exact .inr (.inr (.inl ⟨rfl, .inl ⟨_, e1⟩⟩))
      · cases h'
    · cases h'
  · exact hs h
theorem few_ok {args : List Expr} {env : Env} {pos : Pos} (hs : ∀ e ∈ args, notStar e = true) (hn : args.length < 30) : ((backTo pos (starEach args env)).all (fun x => !x.1) && (backToKw pos (keywordEach [] env)).all (fun x => x.1.isSome)
      && decide (args.length + ([] : List Keyword).length + (if ([] : List Keyword).isEmpty then 0 else 1) < 30)) = true := by
  have h1 : (backTo pos (starEach args env)).all (!·.1) = true := by
    have hp : (backTo pos (starEach args env)).any (·.1) = false := plain_of hs
    rw [List.all_eq_true]
    intro x hx
    rw [List.any_eq_false] at hp
    have := hp x hx
    simpa using this
  rw [h1]
  show (true && true && _) = true
  simp
  exact hn
theorem pe_bm2 (m : Bm) (hu : X.A.units + 64 < cLine) (ho : PE X o (tE X.K W mo)) (ha : PA X (e :: es) (tA X.K W ms)) (hb : okBase o = true) (hs : ∀ x ∈ e :: es, notStar x = true) (hn : (e :: es).length < 30) (hl : (apos.endLine == cpos.line) = true) :
    PE X (.Call (.Attribute o (bmName m) apos) (e :: es) [] cpos) (tE X.K W (bmR m mo ms)) := by
  have hst := star_of (hs e (by simp)) es X.env
  have hpl : (backTo cpos (starEach es X.env)).any (·.1) = false := plain_of fun e h => hs e (List.mem_cons_of_mem _ h)
  have hf := few_ok (pos := cpos) (env := X.env) hs hn
  have im : ∀ σ H Q, tE X.K W (bmR m mo ms) σ H Q → (fun σ H Q => tE X.K W mo σ H fun x H1 => bmTy X.K m x H1 ∧ tA X.K W ms σ H1 fun xs H2 => rM X.K (bmD m) x xs H2 Q) σ H Q := fun σ H Q h => by
    refine (tG.step (Rp := RpD X.K) h).mono fun v H1 ⟨en, d, io, st, er, so, rd, p⟩ => ?_
    by_cases hk : bmOk m d st = true
    · rw [if_pos hk] at p
      refine ⟨bmTy_at hk so rd, en, st, io, er, so, (Post.bind (Rp := RpL X.K) p).mono fun vs H2 ⟨ds, io2, st2, x2, so2, r2, p2⟩ => ?_⟩
      exact ⟨d, ds, st2, io2, so2, Rep.ext x2 _ _ rd, r2, p2.shut⟩
    · rw [if_neg hk] at p; exact p.elim
  refine PEimp ?_ im
  cases m
  · exact pe_bmT PySem.F.plainAttrs_str PySem.F.slot_str_split PySem.F.type_str_split (fun I r ty => tyV_is I r ty) split_s ho ha (base_of hb) hf hl hst hpl
  · exact pe_bmT PySem.F.plainAttrs_str PySem.F.slot_str_lstrip PySem.F.type_str_lstrip (fun I r ty => tyV_is I r ty) lstrip_s ho ha (base_of hb) hf hl hst hpl
  · exact pe_bmT PySem.F.plainAttrs_str PySem.F.slot_str_join PySem.F.type_str_join (fun I r ty => tyV_is I r ty) join_s ho ha (base_of hb) hf hl hst hpl
  · exact pe_bmT PySem.F.plainAttrs_list PySem.F.slot_list_append PySem.F.type_list_append (fun I r ty => tyV_is I r ty) append_s ho ha (base_of hb) hf hl hst hpl
  · exact pe_bmT PySem.F.plainAttrs_list PySem.F.slot_list_extend PySem.F.type_list_extend (fun I r ty => tyV_is I r ty) extend_s ho ha (base_of hb) hf hl hst hpl
  · exact pe_bmT PySem.F.plainAttrs_list PySem.F.slot_list_pop PySem.F.type_list_pop (fun I r ty => tyV_is I r ty) pop_s ho ha (base_of hb) hf hl hst hpl
  · exact pe_bmT PySem.F.plainAttrs_dict PySem.F.slot_dict_get PySem.F.type_dict_get (fun I r ty => by
      obtain ⟨a, rfl, d⟩ := ty
      cases r
      obtain ⟨t1, t2, _⟩ := isD_at I d
      exact ⟨t1, t2⟩) (get_s hu) ho ha (base_of hb) hf hl hst hpl
  · exact pe_bmT PySem.F.plainAttrs_list PySem.F.slot_list_index PySem.F.type_list_index (fun I r ty => tyV_is I r ty) (index_s hu) ho ha (base_of hb) hf hl hst hpl
  · exact pe_bmT PySem.F.plainAttrs_dict PySem.F.slot_dict_update PySem.F.type_dict_update (fun I r ty => tyV_is I r ty) update_s ho ha (base_of hb) hf hl hst hpl
  · exact pe_bmT PySem.F.plainAttrs_str PySem.F.slot_str_index PySem.F.type_str_index (fun I r ty => tyV_is I r ty) sindex_s ho ha (base_of hb) hf hl hst hpl
end
end Mi

set_option maxRecDepth 100000
set_option maxHeartbeats 4000000
/-! dict comprehensions, keys plain or tuples of plain ones -/
namespace Mi
open PySem PySem.Spec PyProof.Rows L2

/-- a dict's object behind d[y] = v -/
inductive DSet (H : Hp) : HO → V → V → HO → Prop
  | k {kvs : List (Key × V)} {k : Key} {v : V} : kvs.length < sizeLine → DSet H (.dK kvs) (kV k) v (.dK (putK kvs k v))
  | t {kvs : List (List Key × V)} {k : List Key} {b : Addr} {v : V} : kvs.length < sizeLine → H b = some (.tup (k.map kV)) → DSet H (.dT kvs) (.ref b) v (.dT (putK kvs k v))
section
variable {X : Cx} {pins : List (Addr × Obj)} {σ : L2.St} {H : Hp} {s : Shared}
theorem set_step {E : Value → Shared → Prop} {d : Addr} {o o' : HO} {y v : V} {u r : Value} {Q : Unit → Shared → Prop} (hu : X.A.units + 1 < cLine) (I : Inv X pins σ H s) (hd : H d = some o) (g : DSet H o y v o') (ry : RelV y u) (rv : RelV v r)
    (h : ∀ s', Inv X pins σ (upd H d o') s' → Q () s') : wpAny (model X.prog X.w) X.A (dictSet d u r) Q E s := by
  cases g with
  | k hz => exact d_dictSet I hd hz ry rv h
  | t hz hb =>
    rename_i kvs k b
    obtain rfl : u = Value.ref b := ry
    obtain ⟨z, ns, xs, rel, dd⟩ := dt_of I.hok hd
    have hx : xs.length ≤ sizeLine := by rw [← Paired.length rel]; exact z
    have hl : (putK kvs k v).length ≤ sizeLine := by have := length_putK kvs k v; omega
    refine wpAny_dictSet_heap (hsz := hx) (show X.A.units < cLine by omega) (L2.key_of I.hok hb) dd fun h' dd' hs => h _ ?_
    obtain ⟨q, es, ep, hq, h2, h3, h4, _, h5⟩ := dd'
    refine d_write I (by rw [hd]; exact True.intro) hs ⟨q, hq⟩ ⟨hl, ns, _, (rel.put k hb rv).keeps fun c ys ec => ?_, q, es, ep, hq, h2, h3, h4, h5⟩
    rw [upd_ne (ne_of ec hd (fun z => nomatch z))]
    exact ec
/-- what a dict comprehension wants: the object o0 an empty dict of one of the two kinds -/
def tDcG (o0 : HO) (wi : TI) (g : TG) (tt : TT) (tk tv : TE) (vs : List Nat) : TE := fun σ H Q => wi σ H fun J H1 => ∀ d, H1 d = none → ∃ W : Nat → Nat → Hp → Prop, (∃ m, W 0 m (upd H1 d o0)) ∧ ∀ i m H, W i m H →
  (J.stop i H ∧ Q (.ref d) H) ∨ (J.go i H ∧ ∃ Nx : Hp → Prop, (∀ H', Nx H' → ∃ m', m' < m ∧ W (i + 1) m' H') ∧ ∀ x H', J.yld i H x H' → g x (wipe σ vs) H' fun σ2 H2 => wipe σ2 vs = wipe σ vs ∧ tt σ2 H2 fun b H3 =>
    if b = true then tk σ2 H3 fun y H4 => tv σ2 H4 fun z H5 => ∃ o o', H5 d = some o ∧ DSet H5 o y z o' ∧ Nx (upd H5 d o') else Nx H3)
end
abbrev Blks (X : Cx) (scope : Scope) (f : Cx → Prop) : Prop := ∀ (s : Shared) (H : Hp) (C : Addr) (cl : List (Str × Addr)) (fp : List Addr), f (X.blk s H scope (compEnvC scope cl C X.env) fp)
section
variable {X : Cx} {kx vx tg iter : Expr} {ifs : List Expr} {scope : Scope} {own : List (Str × Nat)} {pos pos' : Pos} {wi : TI} {g : TG} {tt : TT} {tk tv : TE} {o0 : HO}
/-- the loop, in the block's own context -/
theorem dict_loop {s3 : Shared} {H3 : Hp} {σ : L2.St} {pins : List (Addr × Obj)} {d it : Addr} {fp : List Addr} {tn : Nat → Heap → Prop} {J : It} {ce : Env} {R : Result → Shared → Prop} {Q : VK} {W : Nat → Nat → Hp → Prop} {m0 : Nat} {s4 : Shared} (hc : X.calm = true) (hu : X.A.units + 1 < cLine)
    (I3 : Inv X pins σ H3 s3) (T : Turn X.prog X.w X.K tg J fp it tn) (f3 : ∀ b ∈ fp, FpOk X pins H3 b) (pg : PG (X.blk s3 H3 scope ce fp) tg g) (pt : PTs (X.blk s3 H3 scope ce fp) ifs tt) (pk : PE (X.blk s3 H3 scope ce fp) kx tk) (pv : PE (X.blk s3 H3 scope ce fp) vx tv)
    (cL : ce.locals = s3.heap.objs.size) (I4 : Inv (X.blk s3 H3 scope ce fp) [] (wipe σ (own.map (·.2))) H3 s4) (st4 : tn 0 s4.heap) (w0 : W 0 m0 H3)
    (turn : ∀ i m H, W i m H → (J.stop i H ∧ Q (.ref d) H) ∨ (J.go i H ∧ ∃ Nx : Hp → Prop, (∀ H', Nx H' → ∃ m', m' < m ∧ W (i + 1) m' H') ∧ ∀ x H', J.yld i H x H' → g x (wipe σ (own.map (·.2))) H' fun σ2 H2 => wipe σ2 (own.map (·.2)) = wipe σ (own.map (·.2)) ∧ tt σ2 H2 fun b H3 =>
      if b = true then tk σ2 H3 fun y H4 => tv σ2 H4 fun z H5 => ∃ o o', H5 d = some o ∧ DSet H5 o y z o' ∧ Nx (upd H5 d o') else Nx H3))
    (out : ∀ (s' : Shared) (m : Str → Option Value) (H' : Hp), Inv X pins σ H' s' → Q (.ref d) H' → s'.heap.Ns s3.heap.objs.size m → FpOk X pins H' s3.heap.objs.size → R (.ok .next) s') :
    codeAny (model X.prog X.w) X.A (.compLoop (.DictComp kx vx [⟨tg, iter, ifs, 0⟩] scope pos) 0 (.ref it) (.ref d) ce) R s4 := by
  have here : ∀ {σ' : L2.St} {H' : Hp} {s' : Shared}, Inv (X.blk s3 H3 scope ce fp) [] σ' H' s' → (∀ b ∈ fp, H' b = none) → ∀ b ∈ fp, FpOk (X.blk s3 H3 scope ce fp) [] H' b := fun {σ' H' s'} J' hn b hb =>
    ⟨hn b hb, (J'.ok.exf b hb).1, J'.ok.exfs b hb, .inl hb, fun x c e => (J'.ok.exf b hb).2 x c e, fun p hp => absurd (show p ∈ ([] : List (Addr × Obj)) ++ [] from hp) (by simp)⟩
  refine compLoop_anyD (fun n s' => ∃ i H', Inv (X.blk s3 H3 scope ce fp) [] (wipe σ (own.map (·.2))) H' s' ∧ tn i s'.heap ∧ (∀ b ∈ fp, H' b = none) ∧ W i n H') ?_ m0 ⟨0, H3, I4, st4, fun b hb => (f3 b hb).1, w0⟩
  rintro n s5 ⟨i, H5, I5, st5, n5, w5⟩
  rcases turn i n H5 w5 with ⟨stop, qq⟩ | ⟨go, Nx, hNx, step⟩
  · refine thnF (T.done (X.blk s3 H3 scope ce fp) rfl rfl rfl hc i [] s5 _ H5 (fun _ _ => False) I5 (here I5 n5) st5 stop) fun r s6 ⟨hr, I6⟩ => ?_
    subst hr
    have I7 : Inv X pins σ H5 s6 := I3.call' (ch := fp) I6.os I6.base I6.hok I6.bare fun b hb => ⟨(f3 b hb).2.2.2.1, (f3 b hb).2.1, (f3 b hb).2.2.2.2.1, (f3 b hb).2.2.2.2.2⟩
    have nC : H5 ce.locals = none := I6.free
    obtain ⟨m, hn, _⟩ := I6.loc
    have hn' : s6.heap.Ns ce.locals m := hn
    rw [cL] at nC hn'
    exact out s6 m H5 I7 qq hn' (I3.fpOk (Nat.le_refl _) nC)
  · refine thnF (T.item (X.blk s3 H3 scope ce fp) rfl rfl rfl hc i [] s5 _ H5 (fun _ _ => False) I5 (here I5 n5) st5 go) fun r s6 ⟨u, hr, h6⟩ => ?_
    subst hr
    refine thnF h6 fun _ s7 ⟨x, H7, I7, r7, y7, st7, n7⟩ => ?_
    refine thnF (pg.run _ s7 _ H7 x u _ (I7.pinned (here I7 n7) (T.obj _ _ st7)) r7 (step x H7 y7)) fun _ s8 ⟨σ8, H8, I8, hw8, q8⟩ => ?_
    refine thnF (pt.run _ s8 σ8 H8 _ I8 q8) fun b s9 ⟨H9, I9, q9⟩ => ?_
    have onward : ∀ {s' : Shared} {H' : Hp}, Inv (X.blk s3 H3 scope ce fp) ([] ++ pinsAt fp s7.heap) σ8 H' s' → Nx H' → ∃ m, m < n ∧ ∃ i H', Inv (X.blk s3 H3 scope ce fp) [] (wipe σ (own.map (·.2))) H' s' ∧ tn i s'.heap ∧ (∀ b ∈ fp, H' b = none) ∧ W i m H' := fun {s' H'} I' nx => by
      obtain ⟨m', hm, w'⟩ := hNx H' nx
      have kept : ∀ b ∈ fp, ∀ o, s7.heap.get? b = some o → s'.heap.get? b = some o ∧ H' b = none := fun b hb o e =>
        let z := I'.pin (b, o) (List.mem_append_right _ (List.mem_append_right _ (mem_pinsAt hb e)))
        ⟨z.1, z.2.1⟩
      refine ⟨m', hm, i + 1, H', (I'.unpinned (pins := [])).weak (by rw [← hw8, wipe_length]) (fun j v e => ?_), T.keep _ _ _ st7 fun b hb o e => (kept b hb o e).1, fun b hb => ?_, w'⟩
      · rw [← hw8] at e
        exact (wipe_some e).1
      · obtain ⟨o, e, _⟩ := T.obj _ _ st7 b hb
        exact (kept b hb o e).2
    cases b with
    | false =>
      simp only [Bool.false_eq_true, if_false] at q9 ⊢
      exact onward I9 q9
    | true =>
      simp only [if_true] at q9 ⊢
      refine thnF (pk.run _ s9 σ8 H9 _ I9 q9) fun z s10 ⟨yk, H10, I10, r10, q10⟩ => ?_
      refine thnF (pv.run _ s10 σ8 H10 _ I10 q10) fun z2 s11 ⟨yv, H11, I11, r11, o, o', hD, ds, nx⟩ => ?_
      exact set_step (X := X.blk s3 H3 scope ce fp) hu I11 hD ds r10 r11 fun s12 I12 => onward I12 nx

theorem pe_dcG (hc : X.calm = true) (hu : X.A.units + 1 < cLine) (hN : X.N.Nodup) (h0 : o0 = .dK [] ∨ o0 = .dT []) (hi : PI X tg iter wi) (ok : BlkOk X.N X.env.scope scope own) (hg : Blks X scope fun Y => PG Y tg g) (ht : Blks X scope fun Y => PTs Y ifs tt)
    (hk : Blks X scope fun Y => PE Y kx tk) (hv : Blks X scope fun Y => PE Y vx tv) (hs : ∀ x, foldedSetIterable iter X.env x = pure x) :
    PE X (.DictComp kx vx [⟨tg, iter, ifs, 0⟩] scope pos) (tDcG o0 wi g tt tk tv (own.map (·.2))) := by
  refine ⟨fun pins s σ H Q I h => ?_⟩
  rw [arm_eval_DictComp]
  have frees : ∀ y ∈ scope.names, y.2 = .free → ∃ c, X.env.cells.lookup y.1 = some c := fun y hy e => by
    rcases ok.free y hy e with k | k
    · exact I.ok.has _ (.inl k)
    · exact I.ok.has _ (.inr k)
  refine wpAny_comprehension_free (use := none) rfl hs (closure_ok frees) ok.kind (fun y hy e => by rw [ok.uniq y hy, e]) (thn (hi.run pins s σ H _ I h) fun xv s1 hx => thn hx fun itv s2 ⟨it, fp, tn, J, H2, e, I2, T, st2, f2, q⟩ => ?_)
  subst e
  refine wpAny_newObj_type (newEnv_comp ?_)
  obtain ⟨W, ⟨m0, w0⟩, turn⟩ := q _ (I2.hok.fresh (Nat.le_refl s2.heap.objs.size))
  have push : ∀ {b : Addr} {o : Obj}, s2.heap.get? b = some o → (s2.heap.push { cls := .type "dict", data := .dict #[] }).get? b = some o := fun e => Heap.get?_push_of_some _ e
  have I3 : Inv X pins σ (upd H2 s2.heap.objs.size o0) { s2 with heap := s2.heap.push { cls := .type "dict", data := .dict #[] } } := by
    refine I2.laid (t' := s2.toks) (fun b o e => push e) (Nat.le_refl _) ?_
    rcases h0 with e | e
    · rw [e]; exact dk_empty s2.heap I2.big
    · rw [e]; exact dt_empty s2.heap I2.big
  have f3 : ∀ b ∈ fp, FpOk X pins (upd H2 s2.heap.objs.size o0) b ∧ b < (s2.heap.push { cls := .type "dict", data := .dict #[] }).objs.size := fun b hb => by
    obtain ⟨o, e, _⟩ := T.obj _ _ st2 b hb
    have hlt := Heap.lt_size e
    refine ⟨⟨?_, (f2 b hb).2⟩, by rw [Heap.size_push]; exact Nat.lt_succ_of_lt hlt⟩
    rw [upd_ne (Nat.ne_of_lt hlt)]
    exact (f2 b hb).1
  have st3 : tn 0 (s2.heap.push { cls := .type "dict", data := .dict #[] }) := T.keep _ _ _ st2 fun b _ o e => push e
  have I4 := block_start I3 ok hN f3
  have st4 : tn 0 (pushCells ((s2.heap.push { cls := .type "dict", data := .dict #[] }).push { cls := .type "dict", data := .dict #[] }) scope.names) := T.keep _ _ _ st3 fun b _ o e => pushCells_keeps _ _ _ _ (Heap.get?_push_of_some _ e)
  have loop := dict_loop (iter := iter) (pos := pos) (R := compPost (model X.prog X.w) X.A X.xe none (EP X pins σ Q) (.ref s2.heap.objs.size) (s2.heap.push { cls := .type "dict", data := .dict #[] }).objs.size) (s4 := { s2 with heap := pushCells ((s2.heap.push { cls := .type "dict", data := .dict #[] }).push { cls := .type "dict", data := .dict #[] }) scope.names })
    hc hu I3 T (fun b hb => (f3 b hb).1) (hg _ _ _ _ _) (ht _ _ _ _ _) (hk _ _ _ _ _) (hv _ _ _ _ _) rfl I4 st4 w0 turn (fun s' m H' I' q' hn f => ⟨m, hn, fun h'' sb => ?_⟩)
  · exact codeAny_compStart_dict loop (T.self X.A 0 _ _ _ st4 loop)
  · obtain ⟨f0, f1, f2, f3, f4, f5⟩ := f
    exact ⟨.ref s2.heap.objs.size, H', I'.turned (t' := s'.toks) (fun b o hb e => (sb.2 b hb).trans e) f0 f1 f3 f4 f5, rfl, q'⟩
end

/-! ### what is laid apart while a block runs -/
section
variable {K : PySem.W.Frag} {H : Hp} {io : Io} {st : Sto} {p : Addr}
theorem StOk.hideO (s : StOk K H io st) (h : H p = none) {o : HO} (n1 : ∀ xs, o ≠ .tup xs) : StOk K (upd H p o) (io.hide p) st :=
  ⟨s.len, s.nd, fun n a b e1 e2 => (s.ob n a b e1 e2).mv (Mv.hide h _) (by
    obtain ⟨u, e, _⟩ := (s.ob n a b e1 e2).some
    rw [upd_ne (ne_of_none e h)]), fun a m => by
    rcases List.mem_cons.mp m with m | m
    · subst m
      exact ⟨fun z => s.free h (.inl z), _, upd_same, n1⟩
    · obtain ⟨n, u, e, r⟩ := s.hs a m
      exact ⟨n, u, by rw [upd_ne (ne_of_none e h)]; exact e, r⟩⟩
theorem Mv.hiddenO {o1 : HO} (h : H p = some o1) (n1 : ∀ xs, o1 ≠ .tup xs) (n2 : ∀ f u, o1 ≠ .frz f u) (o : HO) : Mv (io.hide p) H (io.hide p) (upd H p o) := ⟨fun _ _ e => e, fun a u e n => ⟨by rw [upd_ne (show a ≠ p from fun z => n (.inr (by rw [z]; exact List.mem_cons_self)))]; exact e, n⟩,
    fun a u e => by
      rw [upd_ne]
      · exact e
      · rintro rfl
        rw [h] at e; cases e
        exact n1 _ rfl, fun a u w e => by
      rw [upd_ne]
      · exact e
      · rintro rfl
        rw [h] at e; cases e
        exact n2 _ _ rfl⟩
theorem StOk.hiddenO (s : StOk K H (io.hide p) st) {o1 o2 : HO} (h : H p = some o1) (n1 : ∀ xs, o1 ≠ .tup xs) (n2 : ∀ f u, o1 ≠ .frz f u) (n3 : ∀ xs, o2 ≠ .tup xs) : StOk K (upd H p o2) (io.hide p) st :=
  ⟨s.len, s.nd, fun n a b e1 e2 => (s.ob n a b e1 e2).mv (Mv.hiddenO h n1 n2 _) (upd_ne (fun z => (s.hs p List.mem_cons_self).1 (by rw [← z]; exact Io.get_mem e1))), fun a m => by
    obtain ⟨n, u, e, r⟩ := s.hs a m
    refine ⟨n, ?_⟩
    by_cases z : a = p
    · subst z; exact ⟨_, upd_same, n3⟩
    · exact ⟨u, by rw [upd_ne z]; exact e, r⟩⟩
end
/-! ### the two kinds of dicts -/
structure DKind (α β : Type) [DecidableEq α] [DecidableEq β] where
  f : α → β
  ob : List (β × V) → HO
  ky : D → Option α
  inj : ∀ a b, f a = f b → a = b
  mkt : ∀ l xs, ob l ≠ .tup xs
  mkf : ∀ l g u, ob l ≠ .frz g u
  wr : ∀ l, Mut (some (ob l))
  put : ∀ (K : PySem.W.Frag) (H : Hp) (io : Io) (d : D) (v : V) (k : α) (kvs : List (β × V)) (z : V), ky d = some k → Rep K H io d v → kvs.length < sizeLine → DSet H (ob kvs) v z (ob (putK kvs (f k) z))
def dkK : DKind KeyD Key := ⟨keyOf, .dK, keyD, fun a b h => keyOf_inj h, (by intro _ _ z; cases z), (by intro _ _ _ z; cases z), fun _ => trivial, fun K H io d v k kvs z hk r hz => by
  rw [keyD_at hk r]
  exact .k hz⟩
def dkT : DKind (List KeyD) (List Key) := ⟨List.map keyOf, .dT, keyT, fun a b h => map_inj (fun _ _ => keyOf_inj) h, (by intro _ _ z; cases z), (by intro _ _ _ z; cases z), fun _ => trivial, fun K H io d v k kvs z hk r hz => by
  cases d <;> first | (cases hk; done) | skip
  obtain ⟨a, xs, rfl, ha, rl⟩ := r
  rw [keysOf_at hk rl] at ha
  exact .t hz ha⟩
section
variable {α β : Type} [DecidableEq α] [DecidableEq β] (dk : DKind α β)
theorem anyX (k : α) : ∀ (ks : List α) (xs : List V), ks.length = xs.length → (((ks.map dk.f).zip xs).any fun kv => decide (kv.1 = dk.f k)) = (ks.any fun j => decide (j = k))
  | [], _, _ => rfl
  | a :: ks, [], h => by simp at h
  | a :: ks, x :: xs, h => by
    rw [List.map_cons, List.zip_cons_cons, List.any_cons, List.any_cons, anyX k ks xs (by simpa using h)]
    congr 1
    by_cases e : a = k
    · rw [e]; simp
    · rw [decide_eq_false e, decide_eq_false (fun z => e (dk.inj _ _ z))]
theorem mapX {K : PySem.W.Frag} {H : Hp} {io : Io} {z : D} {v : V} (rz : Rep K H io z v) (k : α) : ∀ (ks : List α) (vs : List D) (xs : List V), ks.length = xs.length → RepL K H io vs xs →
    ∃ ys, ((ks.map dk.f).zip xs).map (fun kv => if kv.1 = dk.f k then (kv.1, v) else kv) = (ks.map dk.f).zip ys ∧ ks.length = ys.length ∧ RepL K H io ((ks.zip vs).map fun p => if p.1 = k then z else p.2) ys
  | [], vs, xs, h, r => ⟨[], by simp, rfl, by simp [RepL]⟩
  | a :: ks, vs, [], h, r => by simp at h
  | a :: ks, [], x :: xs, h, r => by cases r
  | a :: ks, d :: vs, x :: xs, h, r => by
    obtain ⟨x', xs', e, r1, r2⟩ := r
    cases e
    obtain ⟨ys, e1, e2, e3⟩ := mapX rz k ks vs xs (by simpa using h) r2
    by_cases hk : a = k
    · refine ⟨v :: ys, ?_, by simp [e2], ?_⟩
      · rw [List.map_cons, List.zip_cons_cons, List.map_cons, e1, List.zip_cons_cons, if_pos (by rw [hk])]
      · rw [List.zip_cons_cons, List.map_cons, if_pos hk]
        exact .cons rz e3
    · refine ⟨x :: ys, ?_, by simp [e2], ?_⟩
      · rw [List.map_cons, List.zip_cons_cons, List.map_cons, e1, List.zip_cons_cons, if_neg (fun q => hk (dk.inj _ _ q))]
      · rw [List.zip_cons_cons, List.map_cons, if_neg hk]
        exact .cons r1 e3
theorem putX_at {K : PySem.W.Frag} {H : Hp} {io : Io} {z : D} {v : V} (rz : Rep K H io z v) (k : α) {ks : List α} {vs : List D} {xs : List V} (hl : ks.length = xs.length) (r : RepL K H io vs xs) :
    ∃ ys, putK ((ks.map dk.f).zip xs) (dk.f k) v = ((putX ks vs k z).1.map dk.f).zip ys ∧ (putX ks vs k z).1.length = ys.length ∧ RepL K H io (putX ks vs k z).2 ys := by
  unfold putK putX
  rw [anyX dk k ks xs hl]
  by_cases hany : (ks.any fun j => decide (j = k)) = true
  · rw [if_pos hany, if_pos hany]
    exact mapX dk rz k ks vs xs hl r
  · rw [if_neg hany, if_neg hany]
    refine ⟨xs ++ [v], ?_, by simp [hl], r.append (.cons rz .nil)⟩
    rw [List.map_append, List.zip_append (by simpa using hl)]
    rfl
/-- the dict behind it stays as it is: known to its object -/
def DatAt (H : Hp) (io : Io) (a : Addr) (kvs : List (β × V)) : Prop := ∃ o, H a = some (.frz o (dk.ob kvs)) ∧ a ∉ io
end
section
variable {α β : Type} [DecidableEq α] [DecidableEq β] (dk : DKind α β) {W : WX} {G : Gs} {C : Call} {own : List (Str × Nat)} {k : Ik} {is : List Nat} {un : Bool} {ms : En → Sto → R (List D)} {mc : En → Sto → R Bool} {mk mv : En → Sto → R D}
def tFrz (t : TE) : TE := fun σ H Q => t σ H fun v H1 => ∃ d u, v = .ref d ∧ H1 d = some u ∧ Mut (some u) ∧ ∀ od, Q v (upd H1 d (.frz od u))
theorem dc_imp {K : PySem.W.Frag} {toD : List α → List D → D} (hD : ∀ (H : Hp) (io : Io) (a : Addr) (ks : List α) (vs : List D) (xs : List V), DatAt dk H io a ((ks.map dk.f).zip xs) → ks.length = xs.length → RepL K H io vs xs → Rep K H io (toD ks vs) (.ref a))
    (hsub : ∀ i ∈ is, i ∈ own.map (·.2)) {σ : L2.St} {H : Hp} {Q : VK} (h : tE K W (fun en st => (ms en st).bind fun ds st => (match walkOf G k ds st with
    | none => .bad
    | some xs => (shut (dcRun dk.ky is un mc mk mv xs (wipeE en (own.map (·.2))) st [] [])).bind fun p st => .ok (toD p.1 p.2) st)) σ H Q) :
    tFrz (tDcG (dk.ob []) (iI K W fun en st => (ms en st).bind fun ds st => ofL (walkOf G k ds st) st) (gT K is un) (tT K WF mc) (tE K WF mk) (tE K WF mv) (own.map (·.2))) σ H Q := by
  have h' : tG K W (RpD K) (fun en st => ((ms en st).bind fun ds st => ofL (walkOf G k ds st) st).bind fun xs st => (shut (dcRun dk.ky is un mc mk mv xs (wipeE en (own.map (·.2))) st [] [])).bind fun p st => .ok (toD p.1 p.2) st) σ H Q := tG.imp h fun en st => by
    cases ms en st with
    | ok ds st =>
      simp only [R.bind_ok]
      cases walkOf G k ds st <;> rfl
    | exc _ _ => rfl
    | bad => rfl
  refine (tG.step (Rp := RpY K) h').mono fun J H1 ⟨en, xs, io, st, er, so, y, p⟩ => ?_
  intro L hL
  obtain ⟨⟨ksf, vsf⟩, stf, etot, p2⟩ := shut_bind p
  generalize hvs : own.map (·.2) = ws at *
  have hDi : L ∉ io := so.free hL
  let Wi : Nat → Hp → Prop := fun i Hc => ∃ (i2 : Io) (st2 : Sto) (ks : List α) (vs : List D) (us : List V), Ext io H1 i2 Hc ∧ StOk K Hc (i2.hide L) st2 ∧ Hc L = some (dk.ob ((ks.map dk.f).zip us)) ∧ ks.length = us.length ∧ RepL K Hc (i2.hide L) vs us ∧
    EnvR K Hc (i2.hide L) (wipeE en ws) (L2.wipe σ ws) ∧ dcRun dk.ky is un mc mk mv (xs.drop i) (wipeE en ws) st2 ks vs = .ok (ksf, vsf) stf
  refine ⟨fun i m Hc => m = xs.length - i ∧ i ≤ xs.length ∧ Wi i Hc, ⟨xs.length, rfl, Nat.zero_le _, io, st, [], [], [], Ext.fresh so hL _, so.hideO hL (dk.mkt _), upd_same, rfl, rfl, (er.wipe ws).mv (Mv.hide hL _), etot⟩, ?_⟩
  rintro i m Hc ⟨rfl, hi, i2, st2, ks, vs, us, x2, so2, hDc, hlen, rl2, er2, run2⟩
  by_cases hlt : i < xs.length
  · have mv2 : Mv io H1 (i2.hide L) Hc := x2.mv.under hL
    refine .inr ⟨y.go _ _ i mv2 hlt, Wi (i + 1), fun H' w => ⟨xs.length - (i + 1), by omega, rfl, hlt, w⟩, fun v H'' yl => ?_⟩
    have hxi : xs[i]? = some xs[i] := List.getElem?_eq_getElem hlt
    obtain ⟨x3, so3, rd⟩ := y.yld _ _ st2 i _ v H'' mv2 so2 hxi yl
    rw [List.drop_eq_getElem_cons hlt] at run2
    unfold dcRun at run2
    cases es : setT is un xs[i] (wipeE en ws) with
    | none => rw [es] at run2; cases run2
    | some en' =>
      rw [es] at run2
      obtain ⟨b, st3, ec, run3⟩ := bind_ok_inv run2
      refine ⟨wipeE en ws, i2.hide L, xs[i], en', er2.ext x3, rd, es, fun σ2 erA hw => ⟨(hw ws fun j hj => hvs ▸ hsub j hj).trans wipe_wipe, en', st2, i2.hide L, erA, so3, ?_⟩⟩
      rw [ec]
      intro b' io4 H4 x4 so4 eb
      cases eb
      have back : ∀ {io4 : Io}, io4.h = L :: i2.h → io4 = Io.hide ⟨io4.l, i2.h⟩ L := fun {io4} e => by
        cases io4
        simp only at e
        subst e
        rfl
      have hh4 := back x4.same
      have xa : Ext io H1 i2 H'' := (Ext.under x2 hL hDi x3 : Ext io H1 ⟨(i2.hide L).l, i2.h⟩ H'')
      have xb : Ext io H1 ⟨io4.l, i2.h⟩ H4 := Ext.under xa hL hDi x4
      have hD3 : H'' L = _ := ((x3.hid L List.mem_cons_self (so2.hs L List.mem_cons_self).1).1).trans hDc
      have hD4 : H4 L = _ := ((x4.hid L List.mem_cons_self (so3.hs L List.mem_cons_self).1).1).trans hD3
      have rl4 := RepL.ext x4 _ _ (RepL.ext x3 _ _ rl2)
      have er4 := (er2.ext x3).ext x4
      cases b with
      | false =>
        rw [if_neg (by decide)]
        rw [hh4] at so4 rl4 er4
        exact ⟨_, st3, ks, vs, us, xb, so4, hD4, hlen, rl4, er4, run3⟩
      | true =>
        rw [if_pos rfl]
        obtain ⟨yv, st5, ee, run4⟩ := bind_ok_inv run3
        refine ⟨en', st3, io4, erA.ext x4, so4, ?_⟩
        rw [ee]
        intro w io5 H5 x5 so5 rw5
        obtain ⟨zv, st6, ez, run5⟩ := bind_ok_inv run4
        refine ⟨en', st5, io5, (erA.ext x4).ext x5, so5, ?_⟩
        rw [ez]
        intro w2 io6 H6 x6 so6 rw6
        have x46 := x5.trans x6
        have rk : Rep K H6 io6 yv w := Rep.ext x6 _ _ rw5
        rw [hh4] at x46 so4 rl4 er4
        cases hk : dk.ky yv with
        | none => rw [hk] at run5; cases run5
        | some kk =>
          rw [hk] at run5
          dsimp only at run5
          by_cases hz : ks.length < sz
          · rw [if_pos hz] at run5
            have hh6 := back x46.same
            have xc : Ext io H1 ⟨io6.l, i2.h⟩ H6 := Ext.under (i1 := ⟨io4.l, i2.h⟩) xb hL hDi x46
            have hD6 : H6 L = some (dk.ob ((ks.map dk.f).zip us)) := ((x46.hid L List.mem_cons_self (so4.hs L List.mem_cons_self).1).1).trans hD4
            have rl6 := RepL.ext x46 _ _ rl4
            have er6 := er4.ext x46
            have hlz : ((ks.map dk.f).zip us).length < sizeLine := by rw [List.length_zip, List.length_map, ← hlen, Nat.min_self, ← sz_eq]; exact hz
            rw [hh6] at so6 rl6 er6 rk rw6
            obtain ⟨ys, e1, e2, e3⟩ := putX_at dk rw6 kk hlen rl6
            refine ⟨_, _, hD6, dk.put K H6 _ yv w kk _ w2 hk rk hlz, _, st6, _, _, ys, xc.poke hL hDi _, so6.hiddenO hD6 (dk.mkt _) (dk.mkf _) (dk.mkt _), ?_, e2, RepL.mv (Mv.hiddenO hD6 (dk.mkt _) (dk.mkf _) _) _ _ e3, er6.mv (Mv.hiddenO hD6 (dk.mkt _) (dk.mkf _) _), run5⟩
            rw [upd_same, e1]
          · rw [if_neg hz] at run5; cases run5
  · have e : i = xs.length := by omega
    subst e
    rw [List.drop_length] at run2
    have run2' : R.ok (ks, vs) st2 = R.ok (ksf, vsf) stf := run2
    cases run2'
    refine .inl ⟨y.stop _ _ (x2.mv), L, _, rfl, hDc, dk.wr _, fun od => ?_⟩
    have xf : Ext io H1 i2 (upd Hc L (.frz od (dk.ob ((ksf.map dk.f).zip us)))) := x2.poke hL hDi _
    have sf := (so2.hiddenO (o2 := .frz od (dk.ob ((ksf.map dk.f).zip us))) hDc (dk.mkt _) (dk.mkf _) (by intro _ z; cases z)).show_
    refine p2 (.ref L) i2 _ xf sf (hD _ _ _ _ _ us ⟨od, upd_same, fun z => ?_⟩ hlen ?_)
    · rcases z with z | z
      · exact (so2.hs L List.mem_cons_self).1 z
      · exact hDi (.inr (by rw [← x2.same]; exact z))
    exact RepL.mv Mv.show_ _ _ (RepL.mv (Mv.hiddenO hDc (dk.mkt _) (dk.mkf _) _) _ _ rl2)
end
end Mi

set_option maxRecDepth 100000
set_option maxHeartbeats 4000000
/-! properties; tuple(d.items()); a walk over an object whose class has `__iter__` -/
namespace Mi
open PySem PySem.Spec PyProof.Rows L2

/-! ### arguments -/
theorem lookup_zip : ∀ {ps : List Str} {us : List Value} {i : Nat} (hn : ps.Nodup) (hl : us.length = ps.length) (hi : i < ps.length), (ps.zip us).lookup ps[i] = some (us[i]'(by omega))
  | [], _, i, _, _, hi => by simp at hi
  | p :: ps, [], i, _, hl, _ => by simp at hl
  | p :: ps, u :: us, 0, hn, hl, hi => by simp
  | p :: ps, u :: us, i + 1, hn, hl, hi => by
    rw [List.nodup_cons] at hn
    have ne : (ps[i]'(by simpa using hi) == p) = false := beq_eq_false_iff_ne.mpr fun e => hn.1 (by rw [← e]; exact List.getElem_mem _)
    simp only [List.zip_cons_cons, List.getElem_cons_succ, List.lookup_cons, ne]
    exact lookup_zip hn.2 (by simpa using hl) _
theorem filterMap_zip {f : Str → Option (Str × Value)} : ∀ {qs : List Str} {ws : List Value} (_ : ws.length = qs.length), (∀ (i : Nat) (hi : i < qs.length) (hj : i < ws.length), f qs[i] = some (qs[i], ws[i])) → qs.filterMap f = qs.zip ws
  | [], ws, _, _ => by simp
  | q :: qs, [], hl, _ => by simp at hl
  | q :: qs, w :: ws, hl, h => by
    have h0 : f q = some (q, w) := h 0 (by simp) (by simp)
    rw [List.filterMap_cons, h0, List.zip_cons_cons]
    show (q, w) :: qs.filterMap f = (q, w) :: qs.zip ws
    congr 1
    exact filterMap_zip (by simpa using hl) fun i hi hj => h (i + 1) (by simpa using hi) (by simpa using hj)
theorem binds_plain {fd : FuncData} {ps : List Str} {us : List Value} {as : List Arg} (hp : fd.params = ⟨[], as, none, [], [], none, []⟩) (hd : fd.defaults = .none) (ha : as.map (·.arg) = ps) (hn : ps.Nodup) (hl : us.length = ps.length) : bindArgs fd ⟨us, []⟩ = pure (ps.zip us) := by
  unfold bindArgs
  have sq : seqItems? .none = pure none := rfl
  have lz : ∀ n ∈ ps, ∃ v, (ps.zip us).lookup n = some v := fun n hn' => by
    obtain ⟨i, hi, e⟩ := List.getElem_of_mem hn'
    exact ⟨_, e ▸ lookup_zip hn hl hi⟩
  have e1 : (ps.take (ps.length - 0)).filter (fun n => ((ps.zip us).lookup n).isNone) = [] := by
    rw [List.filter_eq_nil_iff]
    intro n hn'
    obtain ⟨v, e⟩ := lz n (List.mem_of_mem_take hn')
    rw [e]; simp
  have e2 : ps.filterMap (fun n => ((ps.zip us).lookup n).map (n, ·)) = ps.zip us := by
    refine filterMap_zip hl fun i hi hj => ?_
    rw [lookup_zip hn hl hi]
    rfl
  simp [hp, hd, ha, sq, hl, e1, e2, pure_bind]
  intro x hx h
  obtain ⟨v, e⟩ := lz x hx
  exact absurd (PySem.mem_of_lookup e) (h v)
theorem binds_kw {fd : FuncData} {p : Str} {u : Value} {as : List Arg} (hp : fd.params = ⟨[], as, none, [], [], none, []⟩) (hd : fd.defaults = .none) (ha : as.map (·.arg) = [p]) : bindArgs fd ⟨[], [(p, u)]⟩ = pure [(p, u)] := by
  unfold bindArgs
  have sq : seqItems? .none = pure none := rfl
  simp [hp, hd, ha, sq, pure_bind]

/-! ### properties -/
structure PrpG (X : Cx) (C : Call) (k : Nat) (c f : Nat) : Prop where
  cls : Cls X.K (He.ga X.K (nm c))
  ex : ∃ p g ps, PropOf X.K (He.ga X.K (nm c)) (nm f) p g ∧ FnG X.prog X.w X.K X.mg X.base k g ps (C (c * 10000 + (f + 5000)))
theorem recvD_loc {M : Nat → Nat → Bool} {m key : Nat} {x : D} {st : Sto} {K : PySem.W.Frag} {H : Hp} {io : Io} {v : V} (e : recvD M m x st = some key) (so : StOk K H io st) (r : Rep K H io x v) :
    ∃ c a dx gs, M c m = true ∧ key = c * 10000 + m ∧ v = .ref a ∧ H a = some (.ins (He.ga K (nm c)) dx gs) := by
  unfold recvD at e
  split at e
  · rename_i n
    split at e
    · rename_i c fs vs hq
      split at e
      · rename_i hc
        cases e
        obtain ⟨a, ea, rfl⟩ := r
        obtain ⟨hl, dx, xs, eH, len, rl⟩ := so.ob n a _ ea hq
        exact ⟨c, a, dx, _, hc.1, rfl, rfl, eH⟩
      · cases e
    · cases e
  · cases e
section
variable {X : Cx} {W : WX} {C : Call} {k f : Nat} {o : Expr} {mo : En → Sto → R D} {pos : Pos} {M : Nat → Nat → Bool}
theorem getprop_G {c : Nat} {pins : List (Addr × Obj)} {σ : L2.St} {H : Hp} {s : Shared} {Q : VK} {b : Bool} {a dx : Addr} {fs : List (Str × V)} {d : D} {st : Sto} {io : Io} (I : Inv X pins σ H s) (ea : H a = some (.ins (He.ga X.K (nm c)) dx fs)) (g : PrpG X C k c f) (hr : RoomG (k + 1) X.A) (tk : Takes X W)
    (so : StOk X.K H io st) (rd : Rep X.K H io d (.ref a)) (h : Post X.K io H (fun c d H' => W c d σ H') (RpD X.K) (Mi.shut (C (c * 10000 + (f + 5000)) [d] st)) Q) :
    wpAny (model X.prog X.w) X.A (getAttr (.ref a) (nm f) b) (EP X pins σ Q) X.xe s := by
  obtain ⟨p, ga, ps, hp, F⟩ := g.ex
  have c1 := g.cls
  obtain ⟨mA, O, _, _, _, _⟩ := ins_get I.hok ea
  obtain ⟨od, J, _⟩ := O.look
  obtain ⟨rest, hrec⟩ := hp.rec_
  have I1 := I.tok (s.toks + 1)
  have hc : (PySem.W.clsIn X.K (He.ga X.K (nm c))).isSome = true := by
    obtain ⟨cd, hc, _⟩ := PySem.W.any_some c1.hd
    rw [hc]
    rfl
  refine PySem.W.get_bind I.kIn J (PySem.W.plainGet_of (c1.get (nm f))).1 (PySem.W.findObj_data hc hp.at_ hp.get hp.tak) (PySem.W.plainGet_of (c1.get (nm f))).2 (wpAny_call (PySem.W.prop_get (s := { s with toks := s.toks + 1 }) I.kIn hrec ?_))
  refine codeAny_mono (F.run X.A.in1 X.stack { s with toks := s.toks + 1 } H ⟨[.ref a], []⟩ [.ref a] [.ref a] [d] st io Q (fun _ _ _ => False) ⟨hr.room.in1, hr.gd⟩ I1.env0.in1 .pl (.cons rfl .nil) so (.cons rd .nil) h.shut) fun r s' hq => ?_
  cases r with
  | error er => obtain ⟨_, _, _, _, _, _, _, _, _, _, _, _, z⟩ := hq; exact z.elim
  | ok fl =>
    cases fl with
    | ret u =>
      obtain ⟨v, H', I3, rv, q3⟩ := I1.after hq
      show wpAny _ _ (handedOut u) _ _ _
      rw [PySem.W.handedOut_of (handed_of rv)]
      exact wpAny_pure ⟨v, H', I3, rv, q3⟩
    | next => exact False.elim hq
    | brk => exact False.elim hq
    | cont => exact False.elim hq
theorem pe_propG (hr : RoomG (k + 1) X.A) (tk : Takes X W) (hM : ∀ c, M c (f + 5000) = true → PrpG X C k c f) (ho : PE X o (tE X.K W mo)) (hb : okBase o = true) :
    PE X (.Attribute o (nm f) pos) (tE X.K W fun en st => (mo en st).bind fun x st => (match recvD M (f + 5000) x st with
      | some key => Mi.shut (C key [x] st)
      | none => .bad)) := by
  refine ⟨fun pins s σ H Q I h => ?_⟩
  refine attr_of (base_of hb) (thn (ho.run pins s σ H _ I (tG.step (Rp := RpD X.K) h)) fun u s1 ⟨v, H1, I1, ru, en, x, io1, st0, er, so, rx, p⟩ => ?_)
  cases q : recvD M (f + 5000) x st0 with
  | none => rw [q] at p; exact p.elim
  | some key =>
    rw [q] at p
    obtain ⟨c, a, dx, gs, hMc, rfl, rfl, ea⟩ := recvD_loc q so rx
    obtain rfl : u = Value.ref a := ru
    exact getprop_G I1 ea (hM c hMc) hr tk so rx p
end
theorem Good.prp {G : Gs} {C : Call} {X : Cx} {W : WX} (g : Good G C X W) {f : Nat} (hf : f < 1104) : ∃ k, RoomG (k + 1) X.A ∧ ∀ c, G.M c (f + 5000) = true → PrpG X C k c f := by
  obtain ⟨k, r, h⟩ := g.lev
  refine ⟨k, r, fun c hM => ?_⟩
  unfold Gs.M at hM
  simp only [Bool.and_eq_true, decide_eq_true_eq] at hM
  obtain ⟨⟨h0, h2⟩, hM⟩ := hM
  obtain ⟨ps, hp⟩ := Option.isSome_iff_exists.mp hM
  obtain ⟨a, F⟩ := h _ ps hp
  have e1 : (c * 10000 + (f + 5000)) / 10000 = c := by omega
  have e2 : (c * 10000 + (f + 5000)) % 10000 = f + 5000 := by omega
  obtain ⟨q1, q2⟩ := a.prp (by omega) (by rw [e2]; omega)
  rw [e1] at q1 q2
  rw [e2, Nat.add_sub_cancel] at q2
  exact ⟨q1, _, _, ps, q2, F⟩

/-! ### a module's dict -/
section
variable {X : Cx} {W : WX} {a b : Expr} {ma mb : En → Sto → R D} {g : Nat} {l : List (List Nat × D)} {p pos : Pos}
theorem gin_at {H : Hp} {io : Io} {st st' : Sto} {d : D} {v : V} {y : D} (D : DicK X.K X.w X.mg g l) (e : ginD (some l) d st = .ok y st') (r : Rep X.K H io d v) : ∃ s : List Nat, v = .str ⟨s.toArray⟩ ∧ y = .bl (l.lookup s).isSome ∧ st' = st ∧ ∃ r, PySem.W.nsIn X.K (He.ga X.K (nm g)) ⟨s.toArray⟩ = some r ∧ r.isSome = (l.lookup s).isSome := by
  cases d <;> first | (cases e; done) | skip
  rename_i s
  cases e
  cases r
  refine ⟨s, rfl, rfl, rfl, ?_⟩
  cases q : l.lookup s with
  | none => exact ⟨none, D.non s q, rfl⟩
  | some d =>
    obtain ⟨u, v, e1, _⟩ := D.val s d q
    exact ⟨some u, e1, rfl⟩
theorem pe_gin (D : DicK X.K X.w X.mg g l) (ha : PE X a (tE X.K W ma)) (hg : Gl X (nm g)) (hdb : (nm g == ("__debug__" : Str)) = false) : PE X (.Compare a [.In] [.Name (nm g) p] pos) (tE X.K W fun en st => (ma en st).bind fun x st => ginD (some l) x st) := by
  obtain ⟨es, n, kd⟩ := D.kd
  refine PEimp (pe_cmpR (op_in_kd kd) ha (pe_glob (pos := p) (v := .ref (He.ga X.K (nm g))) hg D.glo rfl hdb) rfl) fun σ H Q h => (tG.step (Rp := RpD X.K) h).mono fun v H1 ⟨en, d, io, st, er, so, rd, q⟩ => ?_
  cases e : ginD (some l) d st with
  | bad => rw [e] at q; exact q.elim
  | exc _ _ => cases d <;> cases e
  | ok y st' =>
    rw [e] at q
    obtain ⟨s, rfl, rfl, rfl, r, e1, e2⟩ := gin_at D e rd
    exact ⟨_, r, rfl, rfl, e1, q _ io H1 (Ext.refl _ _) so (by rw [e2]; rfl)⟩
theorem pt_gin (D : DicK X.K X.w X.mg g l) (ha : PE X a (tE X.K W ma)) (hg : Gl X (nm g)) (hdb : (nm g == ("__debug__" : Str)) = false) : PT X (.Compare a [.In] [.Name (nm g) p] pos) (tT X.K W fun en st => tru ((ma en st).bind fun x st => ginD (some l) x st)) := by
  obtain ⟨es, n, kd⟩ := D.kd
  refine PTimp (pt_cmpR (op_in_kd kd) ha (pe_glob (pos := p) (v := .ref (He.ga X.K (nm g))) hg D.glo rfl hdb) rfl) fun σ H Q h => ?_
  have h' : tG X.K W RpB (fun en st => (ma en st).bind fun x st => tru (ginD (some l) x st)) σ H Q := tG.imp h fun en st => by
    cases ma en st <;> rfl
  refine (tG.step (Rp := RpD X.K) h').mono fun v H1 ⟨en, d, io, st, er, so, rd, q⟩ => ?_
  cases e : ginD (some l) d st with
  | bad => rw [e] at q; exact q.elim
  | exc _ _ => cases d <;> cases e
  | ok y st' =>
    rw [e] at q
    obtain ⟨s, rfl, rfl, rfl, r, e1, e2⟩ := gin_at D e rd
    exact ⟨_, r, rfl, rfl, e1, _, rfl, q _ io H1 (Ext.refl _ _) so (by rw [e2])⟩
theorem pe_gget (D : DicK X.K X.w X.mg g l) (hb : PE X b (tE X.K W mb)) (hg : Gl X (nm g)) (hdb : (nm g == ("__debug__" : Str)) = false) (hs : PlainIx b) : PE X (.Subscript (.Name (nm g) p) b pos) (tE X.K W fun en st => (mb en st).bind fun y st => ggetD (some l) y st) := by
  obtain ⟨es, n, kd⟩ := D.kd
  refine ⟨fun pins s σ H Q I h => ?_⟩
  refine subD_of PySem.F.slot_dict_getitem.lookup hs (thn ((pe_glob (pos := p) (v := .ref (He.ga X.K (nm g))) hg D.glo rfl hdb).run pins s σ H (fun v H1 => v = .ref (He.ga X.K (nm g)) ∧ H1 = H) I ⟨rfl, rfl⟩) fun u s1 ⟨x, H1, I1, rx, ex, eH⟩ => ?_)
  subst ex eH
  obtain rfl : u = Value.ref (He.ga X.K (nm g)) := rx
  refine thn (hb.run pins s1 σ _ _ I1 (tG.step (Rp := RpD X.K) h)) fun iv s2 ⟨y, H2, I2, ry, en, d, io, st, er, so, rd, q⟩ => ?_
  cases d <;> first | exact q.elim | skip
  rename_i s'
  cases rd
  unfold ggetD at q
  dsimp only at q
  cases e : l.lookup s' with
  | none => rw [e] at q; exact q.elim
  | some y =>
    rw [e] at q
    obtain ⟨u, v, e1, r, rep⟩ := D.val s' y e
    exact ⟨kd_type kd I2, op_item_kd kd pins s2 σ H2 (.ref (He.ga X.K (nm g))) _ _ _ Q I2 rfl ry ⟨_, u, v, rfl, rfl, e1, r, q v io H2 (Ext.refl _ _) so (rep H2 io)⟩⟩
end

/-! ### tuple(e.items()) -/
section
variable {X : Cx} {W : WX} {e : Expr} {m : En → Sto → R D} {p apos cpos pos : Pos}
theorem pe_tupIt2 (hc : X.calm = true) (he : PE X e (tE X.K W m)) (hg : Gl X "tuple") (hm : X.mg "tuple" = none) (hb : okBase e = true) (hl : (apos.endLine == cpos.line) = true) :
    PE X (.Call (.Name "tuple" p) [.Call (.Attribute e "items" apos) [] [] cpos] [] pos) (tE X.K W fun en st => (m en st).bind fun x st => (match itsD x st with
      | some xs => .ok (.tuq xs) st
      | none => .bad)) := by
  refine PEimp (pe_tupItems hc he hg hm (base_of hb) hl) fun σ H Q h => (tG.step (Rp := RpD X.K) h).mono fun v H1 ⟨en, d, io, st, er, so, rd, q⟩ => ?_
  cases hd : dictOf d st with
  | none => unfold itsD at q; rw [hd] at q; exact q.elim
  | some pr =>
    obtain ⟨ks, vs⟩ := pr
    unfold itsD at q
    rw [hd] at q
    obtain ⟨a, xs, rfl, ha, hl, rl⟩ := dictOf_at hd so rd
    refine ⟨a, _, rfl, ha, fun H' p o ts k1 k2 k3 k4 k5 k6 k7 k8 k9 => ?_⟩
    have x := Ext.all so k1
    exact q (.ref p) io H' x (so.all k1) ⟨p, ts.map V.ref, rfl, ⟨o, k6, so.free k3, k7, k8⟩, its_rep (RepL.ext x _ _ rl) hl k9⟩
end

/-! ### iter(t) -/
section
variable {prog : Program} {w : World} {A : Around} {E : Value → Shared → Prop} {s : Shared} {t : Addr} {items : Array Value}
theorem call_iterT {Q : Value → Shared → Prop} (hl : s.heap.IsTuple t items) (h : Q (.ref s.heap.objs.size) { s with heap := s.heap.push { cls := .type "tuple_iterator", data := .fields #[.ref t, .int 0 0] } }) : wpAny (model prog w) A (call (.builtin "iter") [.ref t]) Q E s := by
  refine Calls.call_function_entry (by decide +kernel) (by decide +kernel) PySem.W.kdk_entry_iter (PySem.W.kdk_args_iter _) ?_
  unfold Builtin.«iter»
  refine wpAny_bind (m := someArgs "iter" 1 2 _) (wpAny_of_eq (a := [Value.ref t]) (by first | rfl | kernel_rfl!) ?_)
  show wpAny _ _ (pyIter (.ref t) >>= _) _ _ _
  refine wpAny_bind (wpAny_pyIter_tuple hl ?_)
  exact wpAny_pure ⟨_, rfl, h⟩
end
theorem itT_ok {P : Program} {w : World} {H : Hp} {h : Heap} {t it : Addr} (e : h.IsTupleIter it t 0) : ObjOk P w H h it (ItT t it) := ⟨e, let ⟨o, q, _⟩ := e; ⟨o, q⟩, fun h1 h2 q k => q.at fun o z => k _ z⟩
def rIterT (K : PySem.W.Frag) (n : Nat) : List V → Hp → VK → Prop := fun xs H Q => ∃ (t : Addr) (zs : List V), xs = [.ref t] ∧ SqT K H t zs ∧ ∀ it, H it = none → n ≤ it → Q (.ref it) (upd H it (ItT t it))
section
variable {X : Cx}
theorem iterT_s : CallR X (.builtin "iter") (rIterT X.K X.s_0.heap.objs.size) := by
  intro pins s σ H xs us Q I r h
  obtain ⟨t, zs, rfl, hq, q⟩ := h
  obtain ⟨u, rfl, ru⟩ := r.one
  cases ru
  obtain ⟨its, rv, pl, hz⟩ := I.tuple hq
  refine call_iterT pl ?_
  exact ⟨.ref s.heap.objs.size, _, I.laid (t' := s.toks) (fun b u e => Heap.get?_push_of_some _ e) (Nat.le_refl _) (itT_ok ⟨_, Heap.get?_push_size _ rfl, rfl, rfl⟩), rfl, q _ (I.hok.fresh (Nat.le_refl _)) I.sz⟩
end
/-- `def __iter__(self): return iter(self.F)` -/
theorem itrG_of {P : Program} {w : World} {K : PySem.W.Frag} {mg : Str → Option Value} {base : Heap} {c F : Nat} {f : Addr} {name qual slf : Str} {params : Arguments} {body : List Stmt} {scope : Scope} {dV kV doc pm cdv ct oc : Value} {an od : Option Addr} {osl : Array (Option Value)} {N : List Str} {p1 p2 p3 p4 p5 : Pos} {as : List Arg}
    (hlt : F < 1104) (hf : PySem.W.findIn K (.ref (He.ga K (nm c))) "__iter__" = some (some (.ref f))) (hfn : PySem.W.isFn K (.ref f) = true) (hcl : Cls K (He.ga K (nm c))) (hna : NoAttr K (He.ga K (nm c)) (nm F)) (hmg : mg "iter" = none)
    (lk : K.lookup f = some ⟨oc, od, .func (PySem.W.fnOf name qual params body scope dV kV doc pm an cdv ct), osl⟩) (hcd : PySem.W.codeIn K cdv qual = true) (S : FnScope N [slf] scope) (hp : params = ⟨[], as, none, [], [], none, []⟩) (hdv : dV = .none) (ha : as.map (·.arg) = [slf])
    (hN : N[0]? = some slf) (hd : (slf == ("__debug__" : Str)) = false) (hcd2 : (slf == ("__classdict__" : Str)) = false) (hg : scope.names.lookup ("iter" : Str) = some NameKind.globalImplicit)
    (hb : body = [.Return (some (.Call (.Name "iter" p1) [.Attribute (.Name slf p2) (nm F) p3] [] p4)) p5]) : ItrG P w K mg base c F := by
  refine ⟨hlt, f, hf, hfn, fun A outer s H a dx t fs xs Q E hr e0 ea hlk hq h => ?_⟩
  have KX : K.In s.heap := e0.mod.kin.keeps fun b o e => (e0.bs b o e).1
  have lim : s.heap.NoLimit := e0.mod.nolimit.keeps fun b o e => (e0.bs b o e).1
  have hkind : ∀ y ∈ [slf].zip [Value.ref a], scope.names.lookup y.1 = some .local ∨ (scope.names.lookup y.1 = some .cell ∧ ((cellsFrom (s.heap.objs.size + 1) scope.names []).lookup y.1).isSome = true) := fun ⟨n, v⟩ hy => by
    rcases S.par n (List.of_mem_zip hy).1 with q | q
    · exact .inl q
    · exact .inr ⟨q, PySem.W.cellsFrom_some _ _ _ (.inl q)⟩
  refine codeAny_call_function hr.room.depth (KX _ _ lk) rfl S.co S.gen rfl (PySem.W.codeRec_of KX hcd) ?_
  rw [binds_plain (ps := [slf]) (us := [.ref a]) hp hdv ha (by simp) rfl]
  refine wpAny_pure ?_
  refine wpAny_newFunctionEnv_cells S.kind hkind fun env he s1 x => ?_
  subst he
  refine ⟨lim.keeps x.toInCall.keep, codeAny_func ?_⟩
  have I : Inv (cxOf (L2.CX P w) P w K mg base N qual scope f cdv A outer s H E) [] (start N [.ref a]) H s1 := inv_start S hr.room.hd e0 rfl (.cons rfl .nil) x
  subst hb
  have vis : Vis scope slf := (S.par slf (List.Mem.head _)).elim (fun z => .inl z) (fun z => .inr (.inl z))
  have gl : Gl (cxOf (L2.CX P w) P w K mg base N qual scope f cdv A outer s H E) "iter" := hg
  have ht := pss_one (ps_ret (pos := p5) (pe_callB (p := p1) (pos := p4) (X := cxOf (L2.CX P w) P w K mg base N qual scope f cdv A outer s H E) (id := "iter") iterT_s gl hmg rfl (pa_cons (pe_fld (pos := p3) (f := nm F) (pe_var (pos := p2) (i := 0) hN vis hd hcd2) rfl) pa_nil)))
  refine wpAny_mono (ht.run [] s1 (start N [.ref a]) H { nx := fun _ H' => Q .non H', rt := Q } I ?_) (fun fl s' hs => ?_) fun e s' hs => hs
  · exact ⟨.ref a, rfl, a, _, dx, fs, _, rfl, ea, hcl, hna, hlk, t, xs, rfl, hq, fun it n l => h it n l⟩
  · have fin : ∀ {σ' : L2.St} {H' : Hp} {v : V} {u : Value}, Inv (cxOf (L2.CX P w) P w K mg base N qual scope f cdv A outer s H E) [] σ' H' s' → RelV v u → Q v H' → CE outer P w H s Q u s' :=
      fun {σ' H' v u} J rv q => ⟨v, H', J.os, J.bare, J.base, J.hok, rv, q⟩
    cases fl with
    | ret u =>
      obtain ⟨v, σ', H', J, rv, q⟩ := hs
      exact fin J rv q
    | next =>
      obtain ⟨σ', H', J, q⟩ := hs
      exact fin (v := V.non) (u := Value.none) J rfl q
    | brk =>
      obtain ⟨_, _, _, q⟩ := hs
      exact False.elim q
    | cont =>
      obtain ⟨_, _, _, q⟩ := hs
      exact False.elim q
/-! ### the walk -/
section
variable {G : Gs} {C : Call} {X : Cx} {W : WX} {tg e : Expr} {m : En → Sto → R D}
theorem it_own {c F : Nat} {pins : List (Addr × Obj)} {σ : L2.St} {H : Hp} {s : Shared} {R : It → Hp → Prop} {a dx t : Addr} {fs : List (Str × V)} {xs : List V} (g : ItrG X.prog X.w X.K X.mg X.base c F) (hr : RoomG 1 X.A) (I : Inv X pins σ H s)
    (ea : H a = some (.ins (He.ga X.K (nm c)) dx fs)) (hlk : fs.lookup (nm F) = some (.ref t)) (hq : SqT X.K H t xs) (q : R (Itt X.K t) H) : wpAny (model X.prog X.w) X.A (pyIter (.ref a)) (PIE X pins σ tg R) X.xe s := by
  obtain ⟨f, hit, hfn, run⟩ := g.ex
  obtain ⟨mA, O, _⟩ := ins_get I.hok ea
  obtain ⟨od, J, _⟩ := O.look
  obtain ⟨m0, hF⟩ := I.fr
  refine PySem.W.owit_iter hF I.ok.mod.kin J hit hfn ?_
  refine wpAny_call (codeAny_mono (run X.A X.stack s H a dx t fs xs (fun v H' => ∃ it, v = .ref it ∧ H' = upd H it (ItT t it) ∧ H it = none ∧ s.heap.objs.size ≤ it) (fun _ _ _ => False) hr I.env0 ea hlk hq fun it n l => ⟨it, rfl, rfl, n, l⟩) fun r s' hq' => ?_)
  cases r with
  | error er => obtain ⟨_, _, _, _, _, _, _, _, _, _, _, _, z⟩ := hq'; exact z.elim
  | ok fl =>
    cases fl with
    | next => exact False.elim hq'
    | brk => exact False.elim hq'
    | cont => exact False.elim hq'
    | ret u =>
      obtain ⟨v, H', I3, rv, it, ev, eH, hn, hsz⟩ := I.after hq'
      subst ev
      rw [eH] at I3
      cases rv
      have eo : s'.heap.IsTupleIter it t 0 := (I3.hok it _ upd_same).1
      refine wpAny_specialOf (name := "__next__") eo.typeIs slot_tupleiter_next.lookup ?_
      have I4 : Inv X pins σ (ItX.dropH (upd H it (ItT t it)) it) s' := ItX.inv_drop I3 (show upd H it (ItT t it) it = some (.ext _) from upd_same)
      have fp := ItX.inv_fp I3 (u := ItT t it) upd_same (Nat.le_trans I.sz hsz)
      rw [ItX.dropH_upd hn] at I4 fp
      refine ⟨it, [it], _, _, H, rfl, I4, turn_tuple t it, eo, fun b hb => ?_, q⟩
      rw [List.mem_singleton.mp hb]
      exact fp
theorem pi_ownI (g : Good G C X W) (he : PE X e (tE X.K W m)) : PI X tg e (iI X.K W fun en st => (m en st).bind fun d st => ofL (own1 G [d] st) st) := by
  refine ⟨fun pins s σ H R I h => ?_⟩
  refine thn (he.run pins s σ H _ I (tG.step h)) fun u s1 ⟨v, H1, I1, ru, en, d, io, st, er, so, rd, p⟩ => ?_
  have done : ∀ {ds : List D} {J : It}, own1 G [d] st = some ds → Yl X.K J ds io H1 → R J H1 := fun hd y => by
    rw [hd] at p
    exact p _ io H1 (Ext.refl _ _) so y
  cases hw : own1 G [d] st with
  | none => rw [hw] at p; exact p.elim
  | some ds =>
    have hw0 := hw
    unfold own1 at hw
    split at hw
    · rename_i xs hx
      cases hx
      cases hw
      obtain ⟨a, zs, rfl, s2, r2⟩ := rd
      cases ru
      exact it_tup I1 (.of s2) (done hw0 (yl_tup (fun io' H' x => x.sqt (.of s2)) r2))
    · rename_i xs hx
      cases hx
      cases hw
      obtain ⟨a, zs, rfl, s2, r2⟩ := rd
      cases ru
      exact it_list I1 (.of s2.1) (done hw0 (yl_list (fun io' H' x => .of (x.lst _ _ s2.1 s2.2).1) r2))
    · rename_i n hx
      cases hx
      split at hw
      · rename_i c fs vs hq
        split at hw
        · rename_i F hF
          split at hw
          · rename_i xs hl
            cases hw
            obtain ⟨a, ea, rfl⟩ := rd
            cases ru
            obtain ⟨hb, dx, zs, eH, len, rl⟩ := so.ob n a _ ea hq
            have gi := g.itr c F hF
            obtain ⟨w, hlk, rw'⟩ := lookN_at gi.lt hb rl hl
            obtain ⟨t, zs, rfl, s2, r2⟩ := rw'
            obtain ⟨k, hr, _⟩ := g.lev
            exact it_own gi (hr.mono (Nat.le_add_left 1 k)) I1 eH hlk (.of s2) (done hw0 (yl_tup (fun io' H' x => x.sqt (.of s2)) r2))
          · cases hw
        · cases hw
      · cases hw
    · cases hw
end
end Mi

set_option maxRecDepth 100000
set_option maxHeartbeats 4000000
/-! an own exception: `def __init__(self, p): super().__init__(p); self.f = p` -/
namespace Mi
open PySem PySem.Spec PySem.W PySem.Calls PyProof.Rows

/-- a heap that goes on -/
def Kp (x : Addr) (h h' : Heap) : Prop := ∀ b o, b ≠ x → h.get? b = some o → h'.get? b = some o
abbrev xoR (C t : Addr) (d : Option Addr) : Obj := { cls := .ref C, dict := d, data := .fields #[.ref t, .none, .none, .none, .bool false, .none] }
theorem mcall_sup {o : Expr} {m : Str} {apos pos : Pos} {args : List Expr} {env : Env} (hs : ∀ e ∈ args, notStar e = true) (hn : args.length < 30) (hl : (apos.endLine == pos.line) = true) :
    eval (.Call (.Attribute o m apos) args [] pos) env = (do
      let ov ← attributeBase o m env (eval o env)
      standAt apos.atName
      let (f, first) ← holding [ov] (getMethod ov m (do return (← importBound o env).getD true))
      callWith pos f first (backTo pos (starEach args env)) []) := by
  have h : ∀ ov, methodCall o m apos pos env ov (args.length + ([] : List Keyword).length) (backTo pos (starEach args env)) (backToKw pos (keywordEach [] env)) = (do
      let (f, first) ← holding [ov] (getMethod ov m (do return (← importBound o env).getD true))
      callWith pos f first (backTo pos (starEach args env)) []) := fun ov => by
    unfold methodCall
    rw [form_ok hs hn]
    simp only [methodCallPos, calleeOf, hl, Bool.not_true, Bool.false_or, if_true, pure_bind]
    rfl
  rw [arm_eval_Call]
  simp only [h]
section
variable {prog : Program} {w : World} {A : Around} {R : Result → Shared → Prop} {hp : Heap} {g : Array GenState} {d : Drawn} {t : Nat} {os : OsState} {K : Frag} {C fI x t0 : Addr} {qual slf p fld : Str} {u : Value} {mg mb : Str → Option Value}
theorem xinit_code (T : XInit prog K C fI qual slf p fld) (X : K.In hp) (hg : hp.Ns mainGlobals mg) (hb : hp.Ns builtinsNs mb) (hsb : mb "super" = bootBuiltins "super") (hlim : hp.NoLimit) (hroom : A.depth < recursionLimit) (hx : hp.get? x = some (xoR C t0 none)) (hxK : ∀ o, K.lookup x ≠ some o)
    (h : ∀ h' tk' dx t1, (∀ b o, b ≠ x → hp.get? b = some o → h'.get? b = some o) → hp.objs.size ≤ dx → dx ≠ x → h'.get? x = some (xoR C t1 (some dx)) → h'.Ns1 dx (fun y => if y = fld then some u else none) → R (.ok (.ret .none)) ⟨h', g, d, tk', os⟩) :
    codeAny (model prog w) A (.call (.ref fI) ⟨[.ref x, u], []⟩) R ⟨hp, g, d, t, os⟩ := by
  obtain ⟨nm, q, N, bs, bm, sn, sub, ab, col, dd, k0, k1, k2, k3, k5, hC, hbm, hal⟩ := T.cls
  obtain ⟨oc, od, osl, name, params, scope, dV, kV, doc, pm, an, cda, ct, cc, p1, p2, p3, p4, p5, p6, p7, p8, p9, p10, hf, hcd, ⟨ccl, cdd, vs, ccs, file, tf, hcode, hvs, hfile⟩, ⟨cl, cld, csl, hcell⟩, hdv, ⟨a1, a2, hpar, ha1, ha2⟩, s1, s2, s3, s4, s5, s6, s7, s8, hln⟩ := T.fn
  have hcl : clsIn K C = some { name := nm, bases := bs, mro := .ref C :: bm, ns := N, qualname := q, hasDict := true, slotNames := sn, subclasses := sub, abstract := ab, collection := col, hasDel := false } := by unfold clsIn; rw [hC] <;> rfl
  have bind : bindArgs (ksFn name qual params
      [.Expr (.Call (.Attribute (.Call (.Name "super" p1) [] [] p2) "__init__" p3) [.Name p p4] [] p5) p6, .Assign [.Attribute (.Name slf p7) fld p8] (.Name p p9) p10] scope dV kV doc pm an (.ref cda) ct cc) ⟨[.ref x, u], []⟩ = pure ([slf, p].zip [.ref x, u]) :=
    binds_plain (ps := [slf, p]) (us := [.ref x, u]) hpar hdv (by simp [ha1, ha2]) (by simp [T.ne]) rfl
  refine ks_codeAny_call_defAt (binds := [(slf, .ref x), (p, u)]) hroom (X _ _ hf) rfl hlim (codeRec_of X hcd) rfl (BindsTo.of_eq bind) s5 (fun y hy => ?_) (fun h₀ hns hk => ?_) s6 s7 s8
  · rcases List.mem_cons.mp hy with rfl | hy
    · exact s3
    · rw [List.mem_singleton.mp hy]; exact s4
  have hx0 : h₀.get? x = some (xoR C t0 none) := hk _ _ hx
  have X0 : K.In h₀ := X.keeps hk
  have mslf : (fun y => [(slf, Value.ref x), (p, u)].reverse.lookup y) slf = some (.ref x) := by
    have e : (slf == p) = false := beq_eq_false_iff_ne.mpr T.ne
    simp [List.lookup, e]
  have mp : (fun y => [(slf, Value.ref x), (p, u)].reverse.lookup y) p = some u := by simp [List.lookup]
  generalize (fun y => [(slf, Value.ref x), (p, u)].reverse.lookup y) = m at hns mslf mp
  generalize hL : hp.objs.size = L at hns
  generalize t + [(slf, Value.ref x), (p, u)].length = t1
  have hLx : L ≠ x := fun z => by rw [← hL] at z; exact Nat.lt_irrefl _ (by rw [← z] at hx; exact Heap.lt_size hx)
  show PySem.wpAt (model prog w) (A.deeper (ksEnv qual scope L fI (.ref cda) cc)) (.func _ (ksEnv qual scope L fI (.ref cda) cc)) (execs _ (ksEnv qual scope L fI (.ref cda) cc)) _ _ ⟨h₀, g, d, t1, os⟩
  have hi : interactive (ksEnv qual scope L fI (.ref cda) cc) = false := by
    unfold interactive
    rw [show (ksEnv qual scope L fI (.ref cda) cc).scope.kind = .function from s8]
    rfl
  refine ks_wpAt_execs_cons (ks_wpAt_Expr_any (ks_wpAt_MethodCall ?_ (mcall_sup (by simp [notStar]) (by simp) hln)) hi rfl)
  obtain ⟨oD, hD1, hD2⟩ : ∃ oD, h₀.get? C = some oD ∧ oD.data = .cls { name := nm, bases := bs, mro := .ref C :: bm, ns := N, qualname := q, hasDict := true, slotNames := sn, subclasses := sub, abstract := ab, collection := col, hasDel := false } := ⟨_, X0 _ _ hC, rfl⟩
  have hmro : mroIn K C (.ref C) = some true := by
    unfold mroIn
    rw [hcl, Option.bind_some]
    simp
  refine ks_wpAt_super_base (env := ksEnv qual scope L fI (.ref cda) cc) s1 s2 (by decide) rfl (X0 _ _ hf) rfl (ar := a1) (by rw [show (ksFn name qual params _ scope dV kV doc pm an (.ref cda) ct cc).params = params from rfl, hpar]; rfl) rfl (X0 _ _ hcode) rfl hvs hfile T.sup2 ?_
  refine ks_loadName_global s8 s1 (loadGlobal_builtin (env := ksEnv qual scope L fI (.ref cda) cc) (hg.keeps hk) (mg_none_of X hg T.sup) (hb.keeps hk) (hsb.trans rfl) ⟨rfl, ?_⟩)
  refine wpAny_loadName_free s8 s2 rfl ⟨_, X0 _ _ hcell, rfl⟩ ?_
  rw [ha1]
  refine wpAny_loadName_local s8 s3 hns mslf ?_
  refine ks_wpAny_isType_cls hD1 hD2 ⟨rfl, ?_⟩
  refine ks_wpAny_call_super hD1 hD2 hx0 rfl (fun c e => by cases e) (looks_mroIn X0 hmro) (fun h1 e1 k1 => ?_)
  have X1 : K.In h1 := X0.keeps k1
  have hx1 := k1 _ _ hx0
  have I1 : InstAt h1 x (xoR C t0 none) C none := ⟨hx1, rfl, rfl, trivial⟩
  refine kxs_getMethod kxs_ValueError e1 (looks_opaque X1 T.opq) (l₀ := .ref C :: bm) (fun A Q E s k q => wpAny_bind ((looks_clsIn X1 hcl) A _ E s k (wpAny_pure q))) (PySem.ESX.drop_own C bm) X1 hal (I1.type.andThen (looks_subIn X1 T.sub)) (ks_ne X1 I1 hcl) (by decide) ?_
  have k2 : ∀ b o, h1.get? b = some o → (h1.push (kxs_mw "ValueError.__init__" x)).get? b = some o := fun b o e => Heap.get?_push_of_some _ e
  have hu : (h1.push (kxs_mw "ValueError.__init__" x)).get? h1.objs.size = some (kxs_mw "ValueError.__init__" x) := Heap.get?_push_size _ rfl
  have ns2 := (hns.keeps k1).keeps k2
  have X2 := X1.keeps k2
  have hx2 := k2 _ _ hx1
  generalize h1.push (kxs_mw "ValueError.__init__" x) = h2 at k2 hu ns2 X2 hx2 ⊢
  have he : starEach [Expr.Name p p4] (ksEnv qual scope L fI (.ref cda) cc) = (false, eval (.Name p p4) (ksEnv qual scope L fI (.ref cda) cc)) :: starEach [] (ksEnv qual scope L fI (.ref cda) cc) := rfl
  rw [he]
  refine kxs_callWith (i := "ValueError.__init__") (x := x) rfl (evalArgs_plain (PySem.Calls.spliced_cons (wpAny_Name (wpAny_loadName_local s8 s4 ns2 mp (PySem.Calls.spliced_nil ⟨hu, ?_⟩)) T.d2)))
  refine wpAny_call (codeAny_of_tree ?_)
  show wpAny _ _ (callAny (.ref h1.objs.size) ⟨[u], []⟩) _ _ _
  simp only [callAny]
  refine wpAny_bind (wpAny_load hu ?_)
  simp only [kxs_mw, show (Value.type "method-wrapper" == Value.type "method" || Value.type "method-wrapper" == Value.type "builtin_function_or_method" || Value.type "method-wrapper" == Value.type "method-wrapper") = true by decide, if_true]
  refine KFB.if_so (by decide) ?_
  refine wpAny_bind (check_bound_init F.excBase_ValueError.toExcCallFacts (X2 _ _ hC) hx2 rfl ?_)
  refine wpAny_bind (wpAny_pure (wpAny_pure ?_))
  refine ⟨plainId_quiet F.excBase_ValueError.init.plain _, codeAny_builtin F.excBase_ValueError.initEntry ?_⟩
  refine exc_init_tree (cls := .ref C) (t0 := t0) (dv := none) (c2 := .none) (c3 := .none) (b4 := .bool false) hx2 (by rw [sizeLine_eq]; show 1 ≤ 16777216; decide) fun h3 k3 hx3 _ => ?_
  have X3 : K.In h3 := fun b o e => k3 b o (fun z => hxK o (by rw [← z]; exact e)) (X2 b o e)
  have ns3 : h3.Ns L m := by
    obtain ⟨o, es, ep, e1, e2, r⟩ := ns2
    exact ⟨o, es, ep, k3 _ _ hLx e1, e2, r⟩
  refine ks_wpAt_execs_cons (ks_wpAt_Assign_Attr (wpAt_of_wpAny (wpAny_Name (wpAny_loadName_local s8 s4 ns3 mp (wpAny_Name (wpAny_loadName_local s8 s3 ns3 mslf ?_) T.d1)) T.d2)) rfl)
  refine PySem.W.set_plain X3 (od := none) ⟨hx3, rfl, rfl, trivial⟩ T.sa (PySem.HandSPX.exc_osa X3 hx3 hcl (show PySem.HandSPX.refsVE (.ref C :: bm) = true from hbm) rfl T.noat (fun h' tk' dx k dn dne hx' hn => ?_))
  refine wpAt_of_wpAny (wpAny_execs_nil ?_)
  refine h h' tk' dx _ (fun b o hb e => k b o hb (k3 b o hb (k2 b o (k1 b o (hk b o e))))) (Nat.le_trans ?_ dn) dne hx' hn
  rw [hL]
  obtain ⟨o, es, ep, e1, _⟩ := ns3
  exact Nat.le_of_lt (Heap.lt_size e1)
end
end Mi

set_option maxRecDepth 100000
set_option maxHeartbeats 4000000
/-! raise C(e), C an own exception; what the suite behind it asks -/
namespace Mi
open PySem PySem.Spec PyProof.Rows L2

def tMkX (C : Addr) (f : Str) (ta : TA) : L2.St → Hp → XK → Prop := fun σ H Q => ta σ H fun vs H1 => ∃ v, vs = [v] ∧ ∀ d, H1 d = none → Q (.ref C) (some d) (upd H1 d (.xd [(f, v)]))
section
variable {X : Cx} {e : Expr} {ta : TA} {p pos : Pos} {c f : Nat}
theorem pmk_x (T : XcC X.prog X.K X.mg c f) (hr : Room 1 X.A) (hg : Gl X (nm c)) (ha : PA X [e] ta) (hdb : (nm c == ("__debug__" : Str)) = false) (he : starEach [e] X.env = (false, eval e X.env) :: starEach [] X.env) :
    PMk X (.Call (.Name (nm c) p) [e] [] pos) (tMkX (He.ga X.K (nm c)) (nm f) ta) := by
  intro pins s σ H Q I h
  obtain ⟨fI, qual, slf, pp, T2, iC, tI⟩ := T.init
  have gC := T.glo
  have kC := T.kC
  have exC := T.exC
  have tyC := T.tyC
  generalize He.ga X.K (nm c) = C at *
  obtain ⟨nmm, q, N, bs, bm, sn, sub, ab, col, dd, k0, k1, k2, k3, k5, hC, hbm, hal⟩ := T2.cls
  refine wpAny_Call_Name_kw (ld_glob I hg gC ?_ hdb)
  refine PySem.W.callWith_K (h₀ := X.base) I.ok.mod.kin kC (thn (ha.run pos pins s σ H _ I h) fun us s1 ⟨vs, H1, I1, r1, v, ev, q1⟩ => ⟨I1.kIn, ?_⟩) he rfl
  subst ev
  obtain ⟨u, rfl, ru⟩ := r1.one
  show wpAny _ _ (call (.ref C) [u]) _ _ _
  obtain ⟨hp, g, dr, tk, os⟩ := s1
  have hsz : hp.objs.size ≤ hp.objs.size + 1 := Nat.le_succ _
  have hn : H1 (hp.objs.size + 1) = none := I1.hok.fresh hsz
  have kk : ∀ b o, hp.get? b = some o → ((hp.push (PySem.W.kdv_tup [u])).push (PySem.HandSPX.excO C hp.objs.size)).get? b = some o := fun b o e => Heap.get?_push_of_some _ (Heap.get?_push_of_some _ e)
  have hget : ((hp.push (PySem.W.kdv_tup [u])).push (PySem.HandSPX.excO C hp.objs.size)).get? (hp.objs.size + 1) = some (PySem.HandSPX.excO C hp.objs.size) := by heap_get
  have I2 : Inv X pins σ (upd H1 (hp.objs.size + 1) (exo (hp.objs.size + 1) C none)) ⟨(hp.push (PySem.W.kdv_tup [u])).push (PySem.HandSPX.excO C hp.objs.size), g, dr, tk, os⟩ :=
    I1.laid (t' := tk) (a := hp.objs.size + 1) (o := exo (hp.objs.size + 1) C none) (h' := (hp.push (PySem.W.kdv_tup [u])).push (PySem.HandSPX.excO C hp.objs.size)) kk hsz (exo_ok hget)
  have hus : [u].length ≤ sizeLine := by rw [sizeLine_eq]; show 1 ≤ 16777216; decide
  have hxK : ∀ o, X.K.lookup (hp.objs.size + 1) ≠ some o := fun o z => by
    have := Heap.lt_size (I1.kIn _ _ z)
    have h2 : hp.objs.size + 1 < hp.objs.size := this
    omega
  have e0 := I2.env0.make C [u] []
  refine wpAny_call (PySem.HandSPX.call_own F.excBase_ValueError (fun Y => PySem.HandSPX.refsVE_contains Y bm hbm) (I1.kIn _ _ hC) (PySem.W.looks_findIn I1.kIn iC) (fun self => PySem.W.bind_fn I1.kIn self tI) hus ?_)
  generalize ((hp.push (PySem.W.kdv_tup [u])).push (PySem.HandSPX.excO C hp.objs.size)) = hp2 at *
  have M := e0.mod
  obtain ⟨mb, hb1, hb2⟩ := M.blt
  have keep : ∀ b o, X.base.get? b = some o → hp2.get? b = some o := fun b o e => (e0.bs b o e).1
  refine xinit_code T2 I2.kIn (M.glob.keeps keep) (hb1.keeps keep) (hb2 _ (by decide)) (M.nolimit.keeps keep) (hr.make C [u] []).depth hget hxK fun h' tk' dx t1 k dn dne hx hns => ?_
  have hnd : (upd H1 (hp.objs.size + 1) (exo (hp.objs.size + 1) C none)) dx = none := I2.hok.fresh dn
  have nd : ∀ {b : Addr} {o : Obj}, hp2.get? b = some o → b ≠ dx := fun {b o} q => Nat.ne_of_lt (Nat.lt_of_lt_of_le (Heap.lt_size q) dn)
  have eA : (upd H1 (hp.objs.size + 1) (exo (hp.objs.size + 1) C none)) (hp.objs.size + 1) = some (exo (hp.objs.size + 1) C none) := upd_same
  have hd1 : H1 dx = none := by rw [upd_ne dne] at hnd; exact hnd
  have hok2 := I2.hok
  generalize hH2 : upd H1 (hp.objs.size + 1) (exo (hp.objs.size + 1) C none) = H2 at *
  generalize ha0 : hp.objs.size + 1 = a at *
  have na : ∀ {b : Addr}, H2 b = none → b ≠ a := fun {b} n z => by
    rw [z, eA] at n
    cases n
  have Un1 : Un (frs X.stack) [] H2 (upd (upd H2 dx (exd dx [(nm f, v)])) a (exo a C (some dx))) hp2 h' := {
    keep := fun b o q n _ _ => k b o (na n) q
    slot := fun b o q n _ _ => ⟨o.slots, k b o (na n) q⟩
    free := fun b o q n _ => by rw [upd_ne (na n), upd_ne (nd q)]; exact n
    there := fun b o q _ => by
      by_cases hb : b = a
      · exact ⟨_, by rw [hb]; exact hx⟩
      · exact ⟨o, k b o hb q⟩
    tups := fun b xs q => by rw [upd_ne (at_ne eA q exo_tup), upd_ne (ne_of_none q hnd)]; exact q
    frzs := fun b o v q => by rw [upd_ne (at_ne eA q exo_frz), upd_ne (ne_of_none q hnd)]; exact q
    tbls := fun b ps q => ⟨#[], by rw [upd_ne (at_ne eA q exo_tbl), upd_ne (ne_of_none q hnd), q]; simp⟩ }
  have hok3 : HOk X.prog X.w (upd (upd H2 dx (exd dx [(nm f, v)])) a (exo a C (some dx))) h' := fun b o q => by
    by_cases hb : b = a
    · subst hb
      rw [upd_same] at q
      cases q
      exact exo_ok hx
    · rw [upd_ne hb] at q
      by_cases hd : b = dx
      · subst hd
        rw [upd_same] at q
        cases q
        exact exd_ok hns (relO_put (fs := []) ru fun g => True.intro)
      · rw [upd_ne hd] at q
        exact (hok2 b o q).stay (fun c v hc z => k c v (by
            rcases hc with hc | hc
            · rw [hc]
              exact hb
            · exact at_ne eA hc exo_own) z)
          (fun c hc => by rw [upd_ne (at_ne eA hc exo_own), upd_ne (ne_of_none hc hnd)]; exact hc) (fun c xs hc => by rw [upd_ne (at_ne eA hc exo_tup), upd_ne (ne_of_none hc hnd)]; exact hc)
  refine ⟨rfl, mk_end (fs := [(nm f, v)]) (raises_own exC tyC) I1 (ha0 ▸ hsz) kk (hH2 ▸ Un1) (hH2 ▸ hok3) rfl I1.bare upd_same (by rw [upd_ne dne]; exact upd_same) hd1 ?_⟩
  have eH : upd (del (upd (upd H2 dx (exd dx [(nm f, v)])) a (exo a C (some dx))) a) dx (.xd [(nm f, v)]) = upd H1 dx (.xd [(nm f, v)]) := by
    funext b
    by_cases hb : b = dx
    · rw [hb, upd_same, upd_same]
    · rw [upd_ne hb, upd_ne hb]
      by_cases hb2 : b = a
      · rw [hb2, del_same, hn]
      · rw [del_ne hb2, upd_ne hb2, upd_ne hb, ← hH2, upd_ne hb2]
  rw [hH2, eH]
  exact q1 dx hd1
end
/-! ### isinstance(error, C), the error's dict at hand -/
section
open PySem.W PySem.Calls
variable {prog : Program} {w : World} {A : Around} {E : Value → Shared → Prop} {s : Shared} {K : Frag} {x D : Addr} {ox : Obj}
theorem looksX {od : Option Obj} {C : Addr} {name : Str} {a g : Value} (hc : (clsIn K C).isSome = true) (ha : findIn K (.ref C) name = some (some a)) (hg : specialIn K a "__get__" = some (some g)) (ht : takesIn K a = some true) : findObj K C od name = some (.bind g a) := by
  obtain ⟨cd, hc⟩ := Option.isSome_iff_exists.mp hc
  unfold findObj
  rw [hc, Option.bind_some, ha, Option.bind_some]
  simp [hg, ht]
theorem kin_classX {od : Option Obj} {Q : Option Value → Shared → Prop} (T : ExcC K D) (X : K.In s.heap) (I : InstAt s.heap x ox D od) (h : Q (some (.ref D)) { s with toks := s.toks + 1 }) : wpAny (model prog w) A (getAttr? (.ref x) "__class__") Q E s := by
  obtain ⟨hga, hgt, hsub, hdct, ha, hn, htk, hm⟩ := T
  have hf : findObj K D od "__class__" = some (.bind (.builtin "getset_descriptor.__get__") (.builtin "object.__class__")) := looksX (by obtain ⟨cd, hc, _⟩ := any_some hdct; rw [hc]; rfl) ha hn htk
  obtain ⟨hp, g, d, t, os⟩ := s
  have L0 := I.type (M := model prog w)
  have L1 := looks_findIn (M := model prog w) X hga
  have L2 := looks_findIn (M := model prog w) X hgt
  have L3 := looks_find (M := model prog w) X I hf
  have sub : Looks (model prog w) hp (isInstance (.ref x) (.type "BaseException")) true := L0.andThen (looks_subIn X hsub)
  have hx0 : (false && onTheHeap (Value.builtin "BaseException.__getattribute__")) = false := rfl
  have hx2 : (Value.builtin "BaseException.__getattribute__" == Value.builtin "object.__getattribute__") = false := by decide +kernel
  have hx1 : (onTheHeap (Value.ref D) && Value.builtin "BaseException.__getattribute__" == Value.builtin "object.__getattribute__") = false := by rw [hx2]; rfl
  unfold getAttr? getAttrBy? getAttrBy
  refine wpAny_bind (wpAny_mkText (wpAny_bind (wpAny_attempt (wpAny_holding (wpAny_bind (L0.at (wpAny_bind (L1.at ?_))))))))
  show wpAny _ _ (if (onTheHeap (Value.ref D) && Value.builtin "BaseException.__getattribute__" == Value.builtin "object.__getattribute__") = true then _ else _) _ _ _
  rw [hx1, if_neg Bool.false_ne_true]
  unfold getAttrByItsOwn hookBefore
  refine wpAny_bind ?_
  rw [if_pos (show onTheHeap (Value.ref D) = true from rfl)]
  refine L2.at ?_
  refine wpAny_bind (wpAny_attempt (wpAny_holding ?_))
  unfold callGetattribute
  rw [hx0, if_neg Bool.false_ne_true]
  unfold boundAndCalled
  rw [PySem.F.excAttr_ValueError.ga.bind (.ref x)]
  refine wpAny_bind (wpAny_pure ?_)
  show wpAny _ _ (call (.builtin "BaseException.__getattribute__") [.ref x, .str "__class__" t]) _ _ _
  refine wpAny_call (codeAny_call_builtin PySem.F.excAttr_ValueError.ga.plain PySem.F.entry_bexc_ga ?_)
  refine @check_slot (model prog w) _ _ ⟨hp, g, d, t + 1, os⟩ "BaseException.__getattribute__" "BaseException" "__getattribute__" (.ref x) [.str "__class__" t] [] _ (by decide +kernel) (by decide +kernel) sub (PySem.F.args_bexc_ga (.ref x) (.str "__class__" t)) ?_
  unfold Builtin.«object.__getattribute__»
  refine wpAny_bind (wpAny_of_eq (a := ((Value.ref x : Value), [Value.str "__class__" t])) (by first | rfl | (simp only [slotArgs]; rfl)) ?_)
  refine wpAny_bind (wpAny_pure (wpAny_bind (L0.at (wpAny_bind (L3.at ?_)))))
  show wpAny _ _ (holding [Value.builtin "object.__class__"] (call (.builtin "getset_descriptor.__get__") [.builtin "object.__class__", .ref x, .ref D]) >>= ret) _ _ _
  refine wpAny_bind (wpAny_holding (wpAny_call (class_get (s := ⟨hp, g, d, t + 1, os⟩) (ox := ox) (od := od) X I hm ?_)))
  refine wpAny_pure ?_
  show wpAny _ _ (handedOut (.ref D)) _ _ _
  rw [handedOut_of (v := .ref D) rfl]
  first
    | exact wpAny_pure (wpAny_pure h)
    | exact wpAny_pure h
    | exact wpAny_pure (wpAny_bind (wpAny_pure (wpAny_pure h)))
theorem kitX {od : Option Obj} (T : ExcC K D) : KitX K (.ref x) (.ref D) (fun h => InstAt h x ox D od) where
  ty := fun _ _ _ I => I.type
  it := fun _ _ X _ => by
    obtain ⟨cdD, hcD, _⟩ := any_some T.hd
    unfold clsIn at hcD
    split at hcD
    · rename_i c' d' cd' sl' ho
      intro A' Q' E' s' k q
      unfold isType loadHead
      exact wpAny_bind (wpAny_loadPart (k _ _ (X _ _ ho)) (wpAny_pure q))
    · cases hcD
  ne := fun h tp dd its n sl X htp => by
    obtain ⟨cdD, hcD, _⟩ := any_some T.hd
    refine Bool.eq_false_iff.mpr fun q => ?_
    have e : D = tp := Value.ref.inj (beq_iff_eq.mp q)
    subst e
    unfold clsIn at hcD
    split at hcD
    · rename_i c' d' cd' sl' ho
      have z := (X _ _ ho).symm.trans htp
      cases z
    · cases hcD
  ca := fun X I k => kin_classX T X I k
end
def rIsX (K : PySem.W.Frag) (cls : Value) (d : Option Addr) (a : Addr) : List V → Hp → VK → Prop := fun xs H Q => ∃ (D : Addr) (c : V) (cv : Value) (b : Bool) (dd : Addr) (fs : List (Str × V)), cls = .ref D ∧ d = some dd ∧ H dd = some (.xd fs) ∧ ExcC K D ∧ xs = [.ref a, c] ∧ (∀ u, RelV c u → u = cv) ∧ PySem.W.kitOne K (.ref D) cv = some b ∧ Q (.bl b) H
theorem isX_s {X : Cx} {a : Addr} {oe : Obj} {cls : Value} {d : Option Addr} {pn : List (Addr × Obj)} (hz : Zc cls d oe) (hf : ∃ vs, oe.data = .fields vs) : CallR (X.suite a ((a, oe) :: pn)) (.builtin "isinstance") (rIsX X.K cls d a) := by
  intro pins s σ H xs us Q I r h
  obtain ⟨D, c, cv, b, dd, fs, rfl, rfl, eH, C, rfl, hcv, e, q⟩ := h
  cases r with
  | cons rx rr =>
    cases rr with
    | cons rt rr =>
      cases rr
      cases rx
      have ec := hcv _ rt
      subst ec
      obtain ⟨hget, _⟩ := I.pin (a, oe) (List.mem_append.mpr (.inl List.mem_cons_self))
      obtain ⟨vs, hv⟩ := hf
      have hx : ObjOk X.prog X.w H s.heap dd (.xd fs) := I.hok dd _ eH
      obtain ⟨mA, hns, hr⟩ := hx
      obtain ⟨od, ho, hl⟩ := lookIn_ns hns
      have J : PySem.W.InstAt s.heap a oe D (some od) := ⟨hget, hz.1, by unfold PySem.W.notCls; rw [hv] <;> rfl, by rw [hz.2]; exact ho⟩
      exact PySem.W.kia_one (kitX C) I.kIn J e (fun z => nomatch z) fun tk => ⟨.bl b, H, I.kept (t' := tk) fun _ _ z => z, rfl, q⟩
end Mi

set_option maxRecDepth 100000
set_option maxHeartbeats 4000000
namespace Mi
open PySem PySem.Spec L2

/-! ### the checker is right -/
section
variable {G : Gs} {C : Call}
def OkE (G : Gs) (C : Call) (e : E) (X : Cx) (W : WX) (x : Expr) : Prop := PE X x (tE X.K W (ev G C e)) ∧ PT X x (tTr X.K W (ev G C e)) ∧ ((∃ op l pos, x = .BoolOp op l pos) → PW X x (tTr X.K W (ev G C e)))
def SndE (G : Gs) (C : Call) (e : E) : Prop := ∀ (X : Cx) (W : WX) (x : Expr), Good G C X W → ck G X.N e X.env.scope x = true → OkE G C e X W x
def SndL (G : Gs) (C : Call) (e : E) : Prop := ∀ (X : Cx) (W : WX) (xs : List Expr), Good G C X W → ckl G X.N e X.env.scope xs = true → PA X xs (tA X.K W (evs G C e)) ∧ ∀ x ∈ xs, notStar x = true
def SndP (G : Gs) (C : Call) (e : E) : Prop := ∀ (X : Cx) (W : WX) (x : Option Expr), Good G C X W → ckp G X.N e X.env.scope x = true → PO X x (tO X.K W (part G C e))
def SndC (G : Gs) (C : Call) (e : E) : Prop := ∀ (X : Cx) (W : WX) (xs : List Expr), Good G C X W → ckc G X.N e X.env.scope xs = true → PTs X xs (tT X.K W (evc G C e))
def SndS (G : Gs) (C : Call) (e : E) : Prop := ∀ (X : Cx) (W : WX) (x : Expr), Good G C X W → ckl G X.N e X.env.scope [x] = true → ∃ a, e = .cons a .nil ∧ PE X x (tE X.K W (ev G C a))
def SndT (G : Gs) (C : Call) (e : E) : Prop := ∀ (X : Cx) (W : WX) (xs : List Expr), Good G C X W → cklS G X.N e X.env.scope xs = true → PA X xs (tA X.K W (evs G C e))
def Snd (G : Gs) (C : Call) (e : E) : Prop := SndE G C e ∧ SndL G C e ∧ SndP G C e ∧ SndC G C e ∧ SndS G C e ∧ SndT G C e
theorem mkSnd {e : E} (h : SndE G C e) (h1 : ∀ N sc xs, ckl G N e sc xs = false) (h2 : ∀ N sc xs, ckp G N e sc xs = false) (h3 : ∀ N sc xs, ckc G N e sc xs = false) (h4 : ∀ N sc xs, cklS G N e sc xs = false := by intros; rfl) : Snd G C e :=
  ⟨h, fun X W xs g q => by rw [h1] at q; (cases q), fun X W xs g q => by rw [h2] at q; (cases q), fun X W xs g q => by rw [h3] at q; (cases q), fun X W xs g q => by rw [h1] at q; (cases q), fun X W xs g q => by rw [h4] at q; (cases q)⟩
theorem okPlain {e : E} {X : Cx} {W : WX} {x : Expr} (h : PE X x (tE X.K W (ev G C e))) (he : ∀ whole, isTrue x X.env whole = (do let v ← whole; standAt x.pos; holding [v] (truthy v))) (hb : ∀ op l pos, x ≠ .BoolOp op l pos) : OkE G C e X W x :=
  ⟨h, pt_plain h he, fun ⟨op, l, pos, q⟩ => (hb op l pos q).elim⟩
theorem okTest {e : E} {X : Cx} {W : WX} {x : Expr} (h : PE X x (tE X.K W (ev G C e))) (t : PT X x (tTr X.K W (ev G C e))) (hb : ∀ op l pos, x ≠ .BoolOp op l pos) : OkE G C e X W x :=
  ⟨h, t, fun ⟨op, l, pos, q⟩ => (hb op l pos q).elim⟩
theorem plainIx_of {b : Expr} (h : notSlice b = true) : PlainIx b := by
  intro o i
  cases b <;> first | rfl | cases h
theorem fold_of {b : Expr} (h : notSet b = true) (env : Env) : ∀ x, foldedSetIterable b env x = pure x := by
  intro x
  cases b <;> first | rfl | cases h
theorem walk_ok {src : E} (hs : SndL G C src) (h1s : SndS G C src) {X : Cx} {W : WX} (g : Good G C X W) {k : Ik} {tg iter : Expr} (h : ckw G X.env.scope k (fun xs => ckl G X.N src X.env.scope xs) tg iter = true) :
    PI X tg iter (iI X.K W fun en st => (evs G C src en st).bind fun ds st => ofL (walkOf G k ds st) st) ∧ notSet iter = true := by
  unfold ckw at h
  split at h
  · simp only [Bool.and_eq_true] at h
    obtain ⟨h1, h2⟩ := h
    refine ⟨?_, h2⟩
    obtain ⟨a, rfl, ha⟩ := h1s X W _ g h1
    refine PIimp (pi_seqI ha) fun σ H R' hw => tG.imp hw fun en st => ?_
    show ((ev G C a en st).bind fun x st => (Mi.R.ok [] st).bind fun xs st => .ok (x :: xs) st).bind _ = _
    cases ev G C a en st with
    | ok d st => rfl
    | exc _ _ => rfl
    | bad => rfl
  · simp only [Bool.and_eq_true] at h
    obtain ⟨h1, h2⟩ := h
    refine ⟨?_, h2⟩
    obtain ⟨a, rfl, ha⟩ := h1s X W _ g h1
    refine PIimp (pi_keysI ha) fun σ H R' hw => tG.imp hw fun en st => ?_
    show ((ev G C a en st).bind fun x st => (Mi.R.ok [] st).bind fun xs st => .ok (x :: xs) st).bind _ = _
    cases ev G C a en st with
    | ok d st => rfl
    | exc _ _ => rfl
    | bad => rfl
  · simp only [Bool.and_eq_true] at h
    obtain ⟨h1, h2⟩ := h
    refine ⟨?_, h2⟩
    obtain ⟨a, rfl, ha⟩ := h1s X W _ g h1
    refine PIimp (pi_ownI g ha) fun σ H R' hw => tG.imp hw fun en st => ?_
    show ((ev G C a en st).bind fun x st => (Mi.R.ok [] st).bind fun xs st => .ok (x :: xs) st).bind _ = _
    cases ev G C a en st with
    | ok d st => rfl
    | exc _ _ => rfl
    | bad => rfl
  · rename_i o y ap cp
    simp only [Bool.and_eq_true, decide_eq_true_eq] at h
    obtain ⟨⟨⟨⟨rfl, h2⟩, h3⟩, h4⟩, h5⟩ := h
    obtain ⟨a, rfl, ha⟩ := h1s X W _ g h4
    split at h5
    · refine ⟨?_, rfl⟩
      refine PIimp (pi_itemsI ha (base_of h3) h2) fun σ H R' hw => tG.imp hw fun en st => ?_
      show ((ev G C a en st).bind fun x st => (Mi.R.ok [] st).bind fun xs st => .ok (x :: xs) st).bind _ = _
      cases ev G C a en st with
      | ok d st => rfl
      | exc _ _ => rfl
      | bad => rfl
    · cases h5
  · rename_i y _ a p _
    simp only [Bool.and_eq_true, decide_eq_true_eq] at h
    obtain ⟨⟨⟨hy, hg⟩, hn⟩, hc⟩ := h
    subst hy
    obtain ⟨ha, hst⟩ := hs X W _ g hc
    exact ⟨pi_range1I (gl_of hg).1 (g.no _ hn) ha (star_of (hst _ (by simp)) _ _), rfl⟩
  · rename_i y p1 a b p2
    simp only [Bool.and_eq_true, decide_eq_true_eq] at h
    obtain ⟨⟨⟨hy, hg⟩, hn⟩, hc⟩ := h
    subst hy
    obtain ⟨ha, hst⟩ := hs X W _ g hc
    have e2 := star_of (hst b (by simp)) [] X.env
    exact ⟨pi_range2I (gl_of hg).1 (g.no _ hn) ha (by rw [star_of (hst a (by simp)), e2]; rfl) e2, rfl⟩
  · rename_i y p1 a b p2
    simp only [Bool.and_eq_true, decide_eq_true_eq] at h
    obtain ⟨⟨⟨⟨hy, hg⟩, hn⟩, hc⟩, ht⟩ := h
    subst hy
    obtain ⟨ha, hst⟩ := hs X W _ g hc
    split at ht
    · exact ⟨pi_zipI (gl_of hg).1 (g.no _ hn) ha (star_of (hst a (by simp)) _ _) (plain_of fun e he => hst e (by rw [List.mem_singleton.mp he]; simp)), rfl⟩
    · cases ht
  · cases h
theorem snd_var (i : Nat) : Snd G C (.var i) := by
  refine mkSnd (fun X W x g h => ?_) (fun _ _ _ => rfl) (fun _ _ _ => rfl) (fun _ _ _ => rfl)
  cases x with
  | Name y pos => exact okPlain (pe_var2 h) (fun _ => rfl) (fun _ _ _ => nofun)
  | _ => cases h
theorem snd_int (i : Int) : Snd G C (.int i) := by
  refine mkSnd (fun X W x g h => ?_) (fun _ _ _ => rfl) (fun _ _ _ => rfl) (fun _ _ _ => rfl)
  cases x with
  | Constant c k pos =>
    cases c with
    | int j =>
      have e : i = j := of_decide_eq_true h
      subst e
      exact okPlain (pe_con2 pe_int fun _ _ => rfl) (fun _ => rfl) (fun _ _ _ => nofun)
    | _ => cases h
  | _ => cases h
theorem snd_str (s : List Nat) : Snd G C (.str s) := by
  refine mkSnd (fun X W x g h => ?_) (fun _ _ _ => rfl) (fun _ _ _ => rfl) (fun _ _ _ => rfl)
  cases x with
  | Constant c k pos =>
    cases c with
    | str y =>
      have e : y = ⟨s.toArray⟩ := of_decide_eq_true h
      subst e
      exact okPlain (pe_con2 pe_str fun _ _ => rfl) (fun _ => rfl) (fun _ _ _ => nofun)
    | _ => cases h
  | _ => cases h
theorem snd_bool (b : Bool) : Snd G C (.bool b) := by
  refine mkSnd (fun X W x g h => ?_) (fun _ _ _ => rfl) (fun _ _ _ => rfl) (fun _ _ _ => rfl)
  cases x with
  | Constant c k pos =>
    cases c with
    | bool y =>
      have e : b = y := of_decide_eq_true h
      subst e
      exact okPlain (pe_con2 pe_bl fun _ _ => rfl) (fun _ => rfl) (fun _ _ _ => nofun)
    | _ => cases h
  | _ => cases h
theorem snd_non : Snd G C .non := by
  refine mkSnd (fun X W x g h => ?_) (fun _ _ _ => rfl) (fun _ _ _ => rfl) (fun _ _ _ => rfl)
  cases x with
  | Constant c k pos =>
    cases c with
    | none => exact okPlain (pe_con2 pe_non fun _ _ => rfl) (fun _ => rfl) (fun _ _ _ => nofun)
    | _ => cases h
  | _ => cases h
theorem snd_glo (y : Nat) : Snd G C (.glo y) := by
  refine mkSnd (fun X W x g h => ?_) (fun _ _ _ => rfl) (fun _ _ _ => rfl) (fun _ _ _ => rfl)
  cases x with
  | Name z pos =>
    have h' : (decide (nm y = z) && glB X.env.scope z && (G.glo.lookup y).isSome) = true := h
    simp only [Bool.and_eq_true, decide_eq_true_eq] at h'
    obtain ⟨⟨rfl, hg⟩, hs⟩ := h'
    obtain ⟨d, hd⟩ := Option.isSome_iff_exists.mp hs
    refine okPlain (PEimp (pe_glo2 g hg hd) fun σ H Q hw => tG.imp hw fun en st => ?_) (fun _ => rfl) (fun _ _ _ => nofun)
    show (match G.glo.lookup y with | some d => R.ok d st | none => R.bad) = _
    rw [hd]
  | _ => cases h
theorem snd_ty (n : Nat) : Snd G C (.ty n) := by
  refine mkSnd (fun X W x g h => ?_) (fun _ _ _ => rfl) (fun _ _ _ => rfl) (fun _ _ _ => rfl)
  cases x with
  | Name z pos =>
    have h' : (glB X.env.scope z && decide (z ∈ G.no) && tyB z (tyN n)) = true := h
    simp only [Bool.and_eq_true, decide_eq_true_eq] at h'
    obtain ⟨⟨hg, hn⟩, ht⟩ := h'
    exact okPlain (pe_ty2 hg (g.no _ hn) ht) (fun _ => rfl) (fun _ _ _ => nofun)
  | _ => cases h
theorem snd_bin (o : B2) {a b : E} (ha : SndE G C a) (hb : SndE G C b) : Snd G C (.bin o a b) := by
  refine mkSnd (fun X W x g h => ?_) (fun _ _ _ => rfl) (fun _ _ _ => rfl) (fun _ _ _ => rfl)
  cases x with
  | BinOp a' o' b' pos =>
    have h' : (decide (o' = op2 o) && ck G X.N a X.env.scope a' && ck G X.N b X.env.scope b') = true := h
    simp only [Bool.and_eq_true, decide_eq_true_eq] at h'
    obtain ⟨⟨rfl, h1⟩, h2⟩ := h'
    exact okPlain (pe_bin2 (b2_ok o) (ha X W _ g h1).1 (hb X W _ g h2).1) (fun _ => rfl) (fun _ _ _ => nofun)
  | _ => cases h
theorem snd_neg {a : E} (ha : SndE G C a) : Snd G C (.neg a) := by
  refine mkSnd (fun X W x g h => ?_) (fun _ _ _ => rfl) (fun _ _ _ => rfl) (fun _ _ _ => rfl)
  cases x with
  | UnaryOp o a' pos =>
    cases o with
    | USub => exact okPlain (pe_neg2 (ha X W _ g h).1) (fun _ => rfl) (fun _ _ _ => nofun)
    | _ => cases h
  | _ => cases h
theorem snd_not {a : E} (ha : SndE G C a) : Snd G C (.not a) := by
  refine mkSnd (fun X W x g h => ?_) (fun _ _ _ => rfl) (fun _ _ _ => rfl) (fun _ _ _ => rfl)
  cases x with
  | UnaryOp o a' pos =>
    cases o with
    | Not => exact okTest (pe_not2 (ha X W _ g h).1) (pt_not2 (ha X W _ g h).2.1) (fun _ _ _ => nofun)
    | _ => cases h
  | _ => cases h
theorem snd_and {a r : E} (ha : SndE G C a) (hr : SndE G C r) : Snd G C (.and a r) := by
  refine mkSnd (fun X W x g h => ?_) (fun _ _ _ => rfl) (fun _ _ _ => rfl) (fun _ _ _ => rfl)
  have fin : ∀ {a' b' : Expr} {rest : List Expr} {pos : Pos}, OkE G C a X W a' → PE X (.BoolOp .And (b' :: rest) pos) (tE X.K W (ev G C r)) → PW X (.BoolOp .And (b' :: rest) pos) (tTr X.K W (ev G C r)) → OkE G C (.and a r) X W (.BoolOp .And (a' :: b' :: rest) pos) := fun o1 p1 w1 =>
    ⟨pe_and2 o1.1 p1, (pw_and2 o1.2.1 w1).pt, fun _ => pw_and2 o1.2.1 w1⟩
  cases x with
  | BoolOp o l pos =>
    cases o with
    | Or => cases l <;> cases h
    | And =>
      cases l with
      | nil => cases h
      | cons a' l =>
        cases l with
        | nil => cases h
        | cons b' rest =>
          cases rest with
          | nil =>
            have h' : (ck G X.N a X.env.scope a' && ck G X.N r X.env.scope b') = true := h
            rw [Bool.and_eq_true] at h'
            have o2 := hr X W _ g h'.2
            exact fin (ha X W _ g h'.1) (pe_one o2.1) (pw_and1 o2.2.1)
          | cons c' rest =>
            have h' : (ck G X.N a X.env.scope a' && ck G X.N r X.env.scope (.BoolOp .And (b' :: c' :: rest) pos)) = true := h
            rw [Bool.and_eq_true] at h'
            have o2 := hr X W _ g h'.2
            exact fin (ha X W _ g h'.1) o2.1 (o2.2.2 ⟨_, _, _, rfl⟩)
  | _ => cases h
theorem snd_or {a r : E} (ha : SndE G C a) (hr : SndE G C r) : Snd G C (.or a r) := by
  refine mkSnd (fun X W x g h => ?_) (fun _ _ _ => rfl) (fun _ _ _ => rfl) (fun _ _ _ => rfl)
  have fin : ∀ {a' b' : Expr} {rest : List Expr} {pos : Pos}, OkE G C a X W a' → PE X (.BoolOp .Or (b' :: rest) pos) (tE X.K W (ev G C r)) → PW X (.BoolOp .Or (b' :: rest) pos) (tTr X.K W (ev G C r)) → OkE G C (.or a r) X W (.BoolOp .Or (a' :: b' :: rest) pos) := fun o1 p1 w1 =>
    ⟨pe_or2 o1.1 p1, (pw_or2 o1.2.1 w1).pt, fun _ => pw_or2 o1.2.1 w1⟩
  cases x with
  | BoolOp o l pos =>
    cases o with
    | And => cases l <;> cases h
    | Or =>
      cases l with
      | nil => cases h
      | cons a' l =>
        cases l with
        | nil => cases h
        | cons b' rest =>
          cases rest with
          | nil =>
            have h' : (ck G X.N a X.env.scope a' && ck G X.N r X.env.scope b') = true := h
            rw [Bool.and_eq_true] at h'
            have o2 := hr X W _ g h'.2
            exact fin (ha X W _ g h'.1) (pe_one o2.1) (pw_or1 o2.2.1)
          | cons c' rest =>
            have h' : (ck G X.N a X.env.scope a' && ck G X.N r X.env.scope (.BoolOp .Or (b' :: c' :: rest) pos)) = true := h
            rw [Bool.and_eq_true] at h'
            have o2 := hr X W _ g h'.2
            exact fin (ha X W _ g h'.1) o2.1 (o2.2.2 ⟨_, _, _, rfl⟩)
  | _ => cases h
theorem snd_cmp (o : C2) {a b : E} (ha : SndE G C a) (hb : SndE G C b) : Snd G C (.cmp o a b) := by
  refine mkSnd (fun X W x g h => ?_) (fun _ _ _ => rfl) (fun _ _ _ => rfl) (fun _ _ _ => rfl)
  cases x with
  | Compare a' ops bs pos =>
    match ops, bs, h with
    | [o'], [b'], h =>
      have h' : (decide (o' = cp2 o) && ck G X.N a X.env.scope a' && ck G X.N b X.env.scope b' && notSet b') = true := h
      simp only [Bool.and_eq_true, decide_eq_true_eq] at h'
      obtain ⟨⟨⟨rfl, h1⟩, h2⟩, h3⟩ := h'
      have q1 := ha X W _ g h1
      have q2 := hb X W _ g h2
      exact okTest (pe_cmp2 (c2_ok g.hu o) q1.1 q2.1 (marks_of h3 _)) (pt_cmp2 (c2_ok g.hu o) (c2_bl o) q1.1 q2.1 (marks_of h3 _)) (fun _ _ _ => nofun)
    | [], _, h => cases h
    | [_], [], h => cases h
    | [_], _ :: _ :: _, h => cases h
    | _ :: _ :: _, _, h => cases h
  | _ => cases h
theorem snd_isn {a : E} (ha : SndE G C a) : Snd G C (.isn a) := by
  refine mkSnd (fun X W x g h => ?_) (fun _ _ _ => rfl) (fun _ _ _ => rfl) (fun _ _ _ => rfl)
  have f : ∃ a' j p' pos, x = .Compare a' [.Is] [.Constant .none j p'] pos ∧ ck G X.N a X.env.scope a' = true := by
    cases x with
    | Compare a' ops bs pos =>
      match ops, bs, h with
      | [.Is], [.Constant .none j p'], h => exact ⟨a', j, p', pos, rfl, h⟩
    | _ => cases h
  obtain ⟨a', j, p', pos, rfl, h1⟩ := f
  exact okTest (pe_isn2 (ha X W _ g h1).1) (pt_isn2 (ha X W _ g h1).1) (fun _ _ _ => nofun)
theorem snd_notn {a : E} (ha : SndE G C a) : Snd G C (.notn a) := by
  refine mkSnd (fun X W x g h => ?_) (fun _ _ _ => rfl) (fun _ _ _ => rfl) (fun _ _ _ => rfl)
  have f : ∃ a' j p' pos, x = .Compare a' [.IsNot] [.Constant .none j p'] pos ∧ ck G X.N a X.env.scope a' = true := by
    cases x with
    | Compare a' ops bs pos =>
      match ops, bs, h with
      | [.IsNot], [.Constant .none j p'], h => exact ⟨a', j, p', pos, rfl, h⟩
    | _ => cases h
  obtain ⟨a', j, p', pos, rfl, h1⟩ := f
  exact okTest (pe_notn2 (ha X W _ g h1).1) (pt_notn2 (ha X W _ g h1).1) (fun _ _ _ => nofun)
theorem snd_chain (o o2 : C2) {a b c : E} (ha : SndE G C a) (hb : SndE G C b) (hc : SndE G C c) : Snd G C (.chain o o2 a b c) := by
  refine mkSnd (fun X W x g h => ?_) (fun _ _ _ => rfl) (fun _ _ _ => rfl) (fun _ _ _ => rfl)
  have f : ∃ a' b' c' pos, x = .Compare a' [cp2 o, cp2 o2] [b', c'] pos ∧ ck G X.N a X.env.scope a' = true ∧ ck G X.N b X.env.scope b' = true ∧ ck G X.N c X.env.scope c' = true ∧ notSet c' = true := by
    cases x with
    | Compare a' ops bs pos =>
      match ops, bs, h with
      | [p, q], [b', c'], h =>
        have h' : (decide (p = cp2 o) && decide (q = cp2 o2) && ck G X.N a X.env.scope a' && ck G X.N b X.env.scope b' && ck G X.N c X.env.scope c' && notSet b' && notSet c') = true := h
        simp only [Bool.and_eq_true, decide_eq_true_eq] at h'
        obtain ⟨⟨⟨⟨⟨⟨rfl, rfl⟩, h1⟩, h2⟩, h3⟩, h4⟩, h5⟩ := h'
        exact ⟨a', b', c', pos, rfl, h1, h2, h3, h5⟩
    | _ => cases h
  obtain ⟨a', b', c', pos, rfl, h1, h2, h3, h5⟩ := f
  exact okTest (pe_chain2 o o2 g.hu (ha X W _ g h1).1 (hb X W _ g h2).1 (hc X W _ g h3).1 h5) (pt_chain2 o o2 g.hu (ha X W _ g h1).1 (hb X W _ g h2).1 (hc X W _ g h3).1 h5) (fun _ _ _ => nofun)
theorem snd_ite {c a b : E} (hc : SndE G C c) (ha : SndE G C a) (hb : SndE G C b) : Snd G C (.ite c a b) := by
  refine mkSnd (fun X W x g h => ?_) (fun _ _ _ => rfl) (fun _ _ _ => rfl) (fun _ _ _ => rfl)
  cases x with
  | IfExp c' a' b' pos =>
    have h' : (ck G X.N c X.env.scope c' && ck G X.N a X.env.scope a' && ck G X.N b X.env.scope b') = true := h
    simp only [Bool.and_eq_true] at h'
    obtain ⟨⟨h1, h2⟩, h3⟩ := h'
    have q1 := hc X W _ g h1
    have q2 := ha X W _ g h2
    have q3 := hb X W _ g h3
    exact okTest (pe_ite2 q1.2.1 q2.1 q3.1) (pt_ite2 q1.2.1 q2.2.1 q3.2.1) (fun _ _ _ => nofun)
  | _ => cases h
theorem snd_tup {es : E} (hs : SndL G C es) : Snd G C (.tup es) := by
  refine mkSnd (fun X W x g h => ?_) (fun _ _ _ => rfl) (fun _ _ _ => rfl) (fun _ _ _ => rfl)
  cases x with
  | Tuple es' k pos => exact okPlain (pe_tup2 (hs X W _ g h).1) (fun _ => rfl) (fun _ _ _ => nofun)
  | _ => cases h
theorem snd_lst (m : Bool) {es : E} (hs : SndL G C es) : Snd G C (.lst m es) := by
  refine mkSnd (fun X W x g h => ?_) (fun _ _ _ => rfl) (fun _ _ _ => rfl) (fun _ _ _ => rfl)
  cases x with
  | List es' pos => exact okPlain (pe_lst2 (hs X W _ g h).1) (fun _ => rfl) (fun _ _ _ => nofun)
  | _ => cases h
theorem snd_edct : Snd G C .edct := by
  refine mkSnd (fun X W x g h => ?_) (fun _ _ _ => rfl) (fun _ _ _ => rfl) (fun _ _ _ => rfl)
  have f : ∃ pos, x = .Dict [] [] pos := by
    cases x with
    | Dict ks vs pos =>
      match ks, vs, h with
      | [], [], h => exact ⟨pos, rfl⟩
    | _ => cases h
  obtain ⟨pos, rfl⟩ := f
  exact okPlain pe_edct2 (fun _ => rfl) (fun _ _ _ => nofun)
theorem snd_idx {a b : E} (ha : SndE G C a) (hb : SndE G C b) : Snd G C (.idx a b) := by
  refine mkSnd (fun X W x g h => ?_) (fun _ _ _ => rfl) (fun _ _ _ => rfl) (fun _ _ _ => rfl)
  cases x with
  | Subscript a' b' pos =>
    have h' : (ck G X.N a X.env.scope a' && ck G X.N b X.env.scope b' && notSlice b') = true := h
    simp only [Bool.and_eq_true] at h'
    obtain ⟨⟨h1, h2⟩, h3⟩ := h'
    exact okPlain (pe_ix2 idx_s (ha X W _ g h1).1 (hb X W _ g h2).1 (plainIx_of h3)) (fun _ => rfl) (fun _ _ _ => nofun)
  | _ => cases h
theorem snd_sl {a lo hi : E} (ha : SndE G C a) (hl : SndP G C lo) (hh : SndP G C hi) : Snd G C (.sl a lo hi) := by
  refine mkSnd (fun X W x g h => ?_) (fun _ _ _ => rfl) (fun _ _ _ => rfl) (fun _ _ _ => rfl)
  have f : ∃ a' lo' hi' p pos, x = .Subscript a' (.Slice lo' hi' none p) pos ∧ ck G X.N a X.env.scope a' = true ∧ ckp G X.N lo X.env.scope lo' = true ∧ ckp G X.N hi X.env.scope hi' = true := by
    cases x with
    | Subscript a' b' pos =>
      cases b' with
      | Slice lo' hi' st p =>
        cases st with
        | none =>
          have h' : (ck G X.N a X.env.scope a' && ckp G X.N lo X.env.scope lo' && ckp G X.N hi X.env.scope hi') = true := h
          simp only [Bool.and_eq_true] at h'
          exact ⟨a', lo', hi', p, pos, rfl, h'.1.1, h'.1.2, h'.2⟩
        | some _ => cases h
      | _ => cases h
    | _ => cases h
  obtain ⟨a', lo', hi', p, pos, rfl, h1, h2, h3⟩ := f
  exact okPlain (pe_sl2 (ha X W _ g h1).1 (hl X W _ g h2) (hh X W _ g h3)) (fun _ => rfl) (fun _ _ _ => nofun)
theorem snd_rev {a : E} (ha : SndE G C a) : Snd G C (.rev a) := by
  refine mkSnd (fun X W x g h => ?_) (fun _ _ _ => rfl) (fun _ _ _ => rfl) (fun _ _ _ => rfl)
  have f : ∃ a' k p1 p2 p3 pos, x = .Subscript a' (.Slice none none (some (.UnaryOp .USub (.Constant (.int 1) k p1) p2)) p3) pos ∧ ck G X.N a X.env.scope a' = true := by
    cases x with
    | Subscript a' b' pos =>
      match b', h with
      | .Slice none none (some (.UnaryOp .USub (.Constant (.int j) k p1) p2)) p3, h =>
        have h' : (ck G X.N a X.env.scope a' && decide (j = 1)) = true := h
        simp only [Bool.and_eq_true, decide_eq_true_eq] at h'
        obtain ⟨h1, rfl⟩ := h'
        exact ⟨a', k, p1, p2, p3, pos, rfl, h1⟩
    | _ => cases h
  obtain ⟨a', k, p1, p2, p3, pos, rfl, h1⟩ := f
  exact okPlain (pe_rev2 (ha X W _ g h1).1) (fun _ => rfl) (fun _ _ _ => nofun)
theorem snd_bcall (f : Bf) {es : E} (hs : SndL G C es) : Snd G C (.bcall f es) := by
  refine mkSnd (fun X W x g h => ?_) (fun _ _ _ => rfl) (fun _ _ _ => rfl) (fun _ _ _ => rfl)
  have f : ∃ y p e' es' pos, x = .Call (.Name y p) (e' :: es') [] pos ∧ (decide (y = bfName f) && glB X.env.scope y && decide (y ∈ G.no) && ckl G X.N es X.env.scope (e' :: es')) = true := by
    cases x with
    | Call fn args kws pos =>
      match fn, args, kws, h with
      | .Name y p, e' :: es', [], h => exact ⟨y, p, e', es', pos, rfl, h⟩
    | _ => cases h
  obtain ⟨y, p, e', es', pos, rfl, h'⟩ := f
  simp only [Bool.and_eq_true, decide_eq_true_eq] at h'
  obtain ⟨⟨⟨hy, hg⟩, hn⟩, hc⟩ := h'
  obtain ⟨h1, h2⟩ := hs X W _ g hc
  exact okPlain (pe_bf2 g _ hy hg (g.no _ hn) h1 h2) (fun _ => rfl) (fun _ _ _ => nofun)
theorem snd_sset {a : E} (ha : SndE G C a) : Snd G C (.sset a) := by
  refine mkSnd (fun X W x g h => ?_) (fun _ _ _ => rfl) (fun _ _ _ => rfl) (fun _ _ _ => rfl)
  have f : ∃ y p1 z p2 a' p3 pos, x = .Call (.Name y p1) [.Call (.Name z p2) [a'] [] p3] [] pos ∧ (decide (y = "sorted") && decide (z = "set") && glB X.env.scope y && glB X.env.scope z && decide (y ∈ G.no) && decide (z ∈ G.no) && notStar a' && ck G X.N a X.env.scope a') = true := by
    cases x with
    | Call fn args kws pos =>
      match fn, args, kws, h with
      | .Name y p1, [.Call (.Name z p2) [a'] [] p3], [], h => exact ⟨y, p1, z, p2, a', p3, pos, rfl, h⟩
    | _ => cases h
  obtain ⟨y, p1, z, p2, a', p3, pos, rfl, h'⟩ := f
  simp only [Bool.and_eq_true, decide_eq_true_eq] at h'
  obtain ⟨⟨⟨⟨⟨⟨⟨rfl, rfl⟩, g1⟩, g2⟩, n1⟩, n2⟩, hs⟩, hc⟩ := h'
  exact okPlain (pe_sset2 g.calm (gl_of g1).1 (g.no _ n1) (gl_of g2).1 (g.no _ n2) (ha X W _ g hc).1 (star_of hs _ _)) (fun _ => rfl) (fun _ _ _ => nofun)
theorem snd_upper {a : E} (ha : SndE G C a) : Snd G C (.upper a) := by
  refine mkSnd (fun X W x g h => ?_) (fun _ _ _ => rfl) (fun _ _ _ => rfl) (fun _ _ _ => rfl)
  have f : ∃ a' m apos pos, x = .Call (.Attribute a' m apos) [] [] pos ∧ (decide (m = "upper") && isNm a' && (apos.endLine == pos.line) && ck G X.N a X.env.scope a') = true := by
    cases x with
    | Call fn args kws pos =>
      match fn, args, kws, h with
      | .Attribute a' m apos, [], [], h => exact ⟨a', m, apos, pos, rfl, h⟩
    | _ => cases h
  obtain ⟨a', m, apos, pos, rfl, h'⟩ := f
  simp only [Bool.and_eq_true, decide_eq_true_eq] at h'
  obtain ⟨⟨⟨rfl, hn⟩, hl⟩, hc⟩ := h'
  refine okPlain (pe_upper2 (ha X W _ g hc).1 ?_ hl) (fun _ => rfl) (fun _ _ _ => nofun)
  cases a' <;> first | rfl | cases hn
theorem snd_call (f : Nat) {es : E} (hs : SndL G C es) : Snd G C (.call f es) := by
  refine mkSnd (fun X W x g h => ?_) (fun _ _ _ => rfl) (fun _ _ _ => rfl) (fun _ _ _ => rfl)
  have f : ∃ y p es' pos, x = .Call (.Name y p) es' [] pos ∧ (decide (nm f = y) && decide (f < 10000) && glB X.env.scope y && (G.fns.lookup f).isSome && ckl G X.N es X.env.scope es') = true := by
    cases x with
    | Call fn args kws pos =>
      match fn, kws, h with
      | .Name y p, [], h => exact ⟨y, p, args, pos, rfl, h⟩
    | _ => cases h
  obtain ⟨y, p, es', pos, rfl, h'⟩ := f
  simp only [Bool.and_eq_true, decide_eq_true_eq] at h'
  obtain ⟨⟨⟨⟨rfl, hl⟩, hg⟩, hf⟩, hc⟩ := h'
  obtain ⟨ps, hps⟩ := Option.isSome_iff_exists.mp hf
  obtain ⟨h1, h2⟩ := hs X W _ g hc
  cases es' with
  | cons a es' => exact okPlain (pe_own2 g hg hl hps h1 h2) (fun _ => rfl) (fun _ _ _ => nofun)
  | nil =>
    cases es with
    | nil => exact okPlain (pe_own0 g hg hl hps) (fun _ => rfl) (fun _ _ _ => nofun)
    | _ => cases hc
theorem snd_callv (i : Nat) {es : E} (hs : SndL G C es) : Snd G C (.callv i es) := by
  refine mkSnd (fun X W x g h => ?_) (fun _ _ _ => rfl) (fun _ _ _ => rfl) (fun _ _ _ => rfl)
  have f : ∃ y p e' es' pos, x = .Call (.Name y p) (e' :: es') [] pos ∧ (varB X.N X.env.scope i y && ckl G X.N es X.env.scope (e' :: es')) = true := by
    cases x with
    | Call fn args kws pos =>
      match fn, args, kws, h with
      | .Name y p, e' :: es', [], h => exact ⟨y, p, e', es', pos, rfl, h⟩
    | _ => cases h
  obtain ⟨y, p, e', es', pos, rfl, h'⟩ := f
  rw [Bool.and_eq_true] at h'
  obtain ⟨h1, h2⟩ := hs X W _ g h'.2
  exact okPlain (pe_ownV g h'.1 h1 h2) (fun _ => rfl) (fun _ _ _ => nofun)
theorem snd_callk (f : Nat) (k : Str) {a : E} (ha : SndE G C a) : Snd G C (.callk f k a) := by
  refine mkSnd (fun X W x g h => ?_) (fun _ _ _ => rfl) (fun _ _ _ => rfl) (fun _ _ _ => rfl)
  have f : ∃ y p k' a' kp pos, x = .Call (.Name y p) [] [⟨some k', a', kp⟩] pos ∧ (decide (nm f = y) && decide (f < 10000) && decide (k = k') && glB X.env.scope y && decide (G.fns.lookup f = some [k]) && ck G X.N a X.env.scope a') = true := by
    cases x with
    | Call fn args kws pos =>
      match fn, args, kws, h with
      | .Name y p, [], [⟨some k', a', kp⟩], h => exact ⟨y, p, k', a', kp, pos, rfl, h⟩
    | _ => cases h
  obtain ⟨y, p, k', a', kp, pos, rfl, h'⟩ := f
  simp only [Bool.and_eq_true, decide_eq_true_eq] at h'
  obtain ⟨⟨⟨⟨⟨rfl, hl⟩, rfl⟩, hg⟩, hf⟩, hc⟩ := h'
  exact okPlain (pe_ownK g hg hl hf (ha X W _ g hc).1) (fun _ => rfl) (fun _ _ _ => nofun)
theorem snd_get {a b : E} (ha : SndE G C a) (hb : SndE G C b) : Snd G C (.get a b) := by
  refine mkSnd (fun X W x g h => ?_) (fun _ _ _ => rfl) (fun _ _ _ => rfl) (fun _ _ _ => rfl)
  cases x with
  | Subscript a' b' pos =>
    have h' : (ck G X.N a X.env.scope a' && ck G X.N b X.env.scope b' && notSlice b') = true := h
    simp only [Bool.and_eq_true] at h'
    obtain ⟨⟨h1, h2⟩, h3⟩ := h'
    refine okPlain (PEimp (pe_dget (by have := g.hu; omega) (ha X W _ g h1).1 (hb X W _ g h2).1 (plainIx_of h3)) fun σ H Q hw => ?_) (fun _ => rfl) (fun _ _ _ => nofun)
    have hw' : tG X.K W (RpD X.K) (fun en st => (ev G C a en st).bind fun x st => (ev G C b en st).bind fun y st => Mi.shut (getD x y st)) σ H Q := hw
    refine (tG.step2 (Rp := RpD X.K) (Rp' := RpD X.K) (fun x r => Rep.ext x _ _ r) hw').mono fun v H1 h1 => h1.mono fun u H2 ⟨en, d, e, io, st, er, so, rd, re, p⟩ => ?_
    unfold getD at p
    cases hd : dictOf d st with
    | none => rw [hd] at p; exact p.elim
    | some kv =>
      obtain ⟨ks, vs⟩ := kv
      cases hk : keyD e with
      | none => rw [hd, hk] at p; exact p.elim
      | some k =>
        rw [hd, hk] at p
        obtain ⟨L, xs, rfl, hL, hl, rl⟩ := dictOf_at hd so rd
        have ek := keyD_at hk re
        cases hv : valD ks vs k with
        | none => simp only [hv] at p; exact p.elim
        | some z =>
          simp only [hv] at p
          obtain ⟨w, e1, r1⟩ := valD_at rl hv
          exact ⟨L, w, rfl, by rw [ek, ← e1]; exact .inl ⟨_, _, hL, rfl, rfl⟩, p w io H2 (Ext.refl _ _) so r1⟩
  | _ => cases h
theorem ck_lc {N : List Str} {sc : Scope} {k : Ik} {is : List Nat} {un : Bool} {own : List (Str × Nat)} {src cond elt : E} {x : Expr} (h : ck G N (.lc k is un own src cond elt) sc x = true) :
    ∃ elt' tg iter ifs scope pos, x = .ListComp elt' [⟨tg, iter, ifs, 0⟩] scope pos ∧ blkC N sc scope own = true ∧ ckw G sc k (fun xs => ckl G N src sc xs) tg iter = true ∧
      ckt N (relS scope sc) (fun x => scope.names.lookup x == some .cell) is un tg = true ∧ (∀ i ∈ is, i ∈ own.map (·.2)) ∧ notSet iter = true ∧ ckc G N cond (relS scope sc) ifs = true ∧ ck G N elt (relS scope sc) elt' = true := by
  cases x with
  | ListComp elt' gens scope pos =>
    match gens, h with
    | [⟨tg, iter, ifs, as⟩], h =>
      have h' : (decide (as = 0) && blkC N sc scope own && ckw G sc k (fun xs => ckl G N src sc xs) tg iter &&
        ckt N (relS scope sc) (fun x => scope.names.lookup x == some .cell) is un tg && (is.all fun i => decide (i ∈ own.map (·.2))) && notSet iter && ckc G N cond (relS scope sc) ifs && ck G N elt (relS scope sc) elt') = true := h
      simp only [Bool.and_eq_true, decide_eq_true_eq] at h'
      obtain ⟨⟨⟨⟨⟨⟨⟨rfl, q1⟩, q2⟩, q3⟩, q4⟩, q5⟩, q6⟩, q7⟩ := h'
      exact ⟨elt', tg, iter, ifs, scope, pos, rfl, q1, q2, q3, fun i hi => of_decide_eq_true (List.all_eq_true.mp q4 i hi), q5, q6, q7⟩
  | _ => cases h
theorem snd_lc (k : Ik) (is : List Nat) (un : Bool) (own : List (Str × Nat)) {src cond elt : E} (hs : SndL G C src) (h1s : SndS G C src) (hc : SndC G C cond) (he : SndE G C elt) : Snd G C (.lc k is un own src cond elt) := by
  refine mkSnd (fun X W x g h => ?_) (fun _ _ _ => rfl) (fun _ _ _ => rfl) (fun _ _ _ => rfl)
  obtain ⟨elt', tg, iter, ifs, scope, pos, rfl, q1, q2, q3, q4, q5, q6, q7⟩ := ck_lc h
  have ok := blkOk_by q1
  have gb := fun s H Cc cl fp => g.blk ok.kind s H Cc cl fp
  refine okPlain (pe_lcM g (walk_ok hs h1s g q2).1 ok (fun s H Cc cl fp => ?_) (fun s H Cc cl fp => hc _ WF _ (gb s H Cc cl fp) q6) (fun s H Cc cl fp => (he _ WF _ (gb s H Cc cl fp) q7).1) q4 (fold_of q5 _)) (fun _ => rfl) (fun _ _ _ => nofun)
  exact pg_ok (X := X.blk s H scope (compEnvC scope cl Cc X.env) fp) g.calm g.nd (fun _ h => h) q3
theorem ck_dc {N : List Str} {sc : Scope} {t : Bool} {k : Ik} {is : List Nat} {un : Bool} {own : List (Str × Nat)} {src cond key val : E} {x : Expr} (h : ck G N (.dc t k is un own src cond key val) sc x = true) :
    ∃ kx vx tg iter ifs scope pos, x = .DictComp kx vx [⟨tg, iter, ifs, 0⟩] scope pos ∧ blkC N sc scope own = true ∧ ckw G sc k (fun xs => ckl G N src sc xs) tg iter = true ∧
      ckt N (relS scope sc) (fun x => scope.names.lookup x == some .cell) is un tg = true ∧ (∀ i ∈ is, i ∈ own.map (·.2)) ∧ notSet iter = true ∧ ckc G N cond (relS scope sc) ifs = true ∧ ck G N key (relS scope sc) kx = true ∧ ck G N val (relS scope sc) vx = true := by
  cases x with
  | DictComp kx vx gens scope pos =>
    match gens, h with
    | [⟨tg, iter, ifs, as⟩], h =>
      have h' : (decide (as = 0) && blkC N sc scope own && ckw G sc k (fun xs => ckl G N src sc xs) tg iter &&
        ckt N (relS scope sc) (fun x => scope.names.lookup x == some .cell) is un tg && (is.all fun i => decide (i ∈ own.map (·.2))) && notSet iter && ckc G N cond (relS scope sc) ifs && ck G N key (relS scope sc) kx && ck G N val (relS scope sc) vx) = true := h
      simp only [Bool.and_eq_true, decide_eq_true_eq] at h'
      obtain ⟨⟨⟨⟨⟨⟨⟨⟨rfl, q1⟩, q2⟩, q3⟩, q4⟩, q5⟩, q6⟩, q7⟩, q8⟩ := h'
      exact ⟨kx, vx, tg, iter, ifs, scope, pos, rfl, q1, q2, q3, fun i hi => of_decide_eq_true (List.all_eq_true.mp q4 i hi), q5, q6, q7, q8⟩
  | _ => cases h
theorem snd_dc (t : Bool) (k : Ik) (is : List Nat) (un : Bool) (own : List (Str × Nat)) {src cond key val : E} (hs : SndL G C src) (h1s : SndS G C src) (hc : SndC G C cond) (hk : SndE G C key) (hv : SndE G C val) : Snd G C (.dc t k is un own src cond key val) := by
  refine mkSnd (fun X W x g h => ?_) (fun _ _ _ => rfl) (fun _ _ _ => rfl) (fun _ _ _ => rfl)
  obtain ⟨kx, vx, tg, iter, ifs, scope, pos, rfl, q1, q2, q3, q4, q5, q6, q7, q8⟩ := ck_dc h
  have ok := blkOk_by q1
  have gb := fun s H Cc cl fp => g.blk ok.kind s H Cc cl fp
  have pg : Blks X scope fun Y => PG Y tg (gT X.K is un) := fun s H Cc cl fp => pg_ok (X := X.blk s H scope (compEnvC scope cl Cc X.env) fp) g.calm g.nd (fun _ h => h) q3
  have base := fun (o0 : HO) (h0 : o0 = .dK [] ∨ o0 = .dT []) => pe_freeze (pe_dcG (o0 := o0) (pos := pos) (g := gT X.K is un) (tt := tT X.K WF (evc G C cond)) (tk := tE X.K WF (ev G C key)) (tv := tE X.K WF (ev G C val)) g.calm (by have := g.hu; omega) g.nd h0 (walk_ok hs h1s g q2).1 ok pg (fun s H Cc cl fp => hc _ WF _ (gb s H Cc cl fp) q6) (fun s H Cc cl fp => (hk _ WF _ (gb s H Cc cl fp) q7).1)
    (fun s H Cc cl fp => (hv _ WF _ (gb s H Cc cl fp) q8).1) (fold_of q5 _))
  cases t with
  | false => exact okPlain (PEimp (base _ (.inl rfl)) fun σ H Q hw => dc_imp dkK (toD := D.dct) (fun H io a ks vs xs ha hl r => ⟨a, xs, rfl, ha, hl, r⟩) q4 hw) (fun _ => rfl) (fun _ _ _ => nofun)
  | true => exact okPlain (PEimp (base _ (.inr rfl)) fun σ H Q hw => dc_imp dkT (toD := D.dtu) (fun H io a ks vs xs ha hl r => ⟨a, xs, rfl, ha, hl, r⟩) q4 hw) (fun _ => rfl) (fun _ _ _ => nofun)
theorem snd_getT {a b : E} (ha : SndE G C a) (hb : SndE G C b) : Snd G C (.getT a b) := by
  refine mkSnd (fun X W x g h => ?_) (fun _ _ _ => rfl) (fun _ _ _ => rfl) (fun _ _ _ => rfl)
  cases x with
  | Subscript a' b' pos =>
    have h' : (ck G X.N a X.env.scope a' && ck G X.N b X.env.scope b' && notSlice b') = true := h
    simp only [Bool.and_eq_true] at h'
    obtain ⟨⟨h1, h2⟩, h3⟩ := h'
    refine okPlain (PEimp (pe_dget (by have := g.hu; omega) (ha X W _ g h1).1 (hb X W _ g h2).1 (plainIx_of h3)) fun σ H Q hw => ?_) (fun _ => rfl) (fun _ _ _ => nofun)
    have hw' : tG X.K W (RpD X.K) (fun en st => (ev G C a en st).bind fun x st => (ev G C b en st).bind fun y st => Mi.shut (getTD x y st)) σ H Q := hw
    refine (tG.step2 (Rp := RpD X.K) (Rp' := RpD X.K) (fun x r => Rep.ext x _ _ r) hw').mono fun v H1 h1 => h1.mono fun u H2 ⟨en, d, e, io, st, er, so, rd, re, p⟩ => ?_
    cases d <;> first | (exact p.elim) | skip
    rename_i ks vs
    unfold getTD at p
    cases hk : keyT e with
    | none => simp only [hk] at p; exact p.elim
    | some k =>
      cases hv : valX ks vs k with
      | none => simp only [hk, hv] at p; exact p.elim
      | some z =>
        simp only [hk, hv] at p
        obtain ⟨L, xs, rfl, ⟨o, hL, _⟩, hl, rl⟩ := rd
        obtain ⟨q, rfl, hq⟩ := keyT_at hk re
        obtain ⟨w, e1, r1⟩ := valX_at (f := List.map keyOf) (fun _ _ z => keysOf_inj z) rl hv
        exact ⟨L, w, rfl, .inr ⟨_, k.map keyOf, q, .inr ⟨o, hL⟩, rfl, hq, e1.symm⟩, p w io H2 (Ext.refl _ _) so r1⟩
  | _ => cases h
theorem snd_nil : Snd G C .nil := by
  refine ⟨fun X W x g h => Bool.noConfusion (show false = true from h), fun X W xs g h => ?_, fun X W x g h => ?_, fun X W xs g h => ?_, fun X W x g h => Bool.noConfusion (show false = true from h), fun X W xs g h => ?_⟩
  · cases xs with
    | nil => exact ⟨pa_nil2, nofun⟩
    | cons _ _ => cases h
  · cases x with
    | none => exact po_none2
    | some _ => cases h
  · cases xs with
    | nil => exact ⟨fun pins s σ H Q I ⟨en, st, io, er, so, p⟩ => pts_nil.run pins s σ H Q I (p true io H (Ext.refl _ _) so rfl)⟩
    | cons _ _ => cases h
  · cases xs with
    | nil => exact pa_nil2
    | cons _ _ => cases h
theorem snd_cons {a r : E} (ha : Snd G C a) (hr : Snd G C r) : Snd G C (.cons a r) := by
  refine ⟨fun X W x g h => Bool.noConfusion (show false = true from h), fun X W xs g h => ?_, fun X W x g h => ?_, fun X W xs g h => ?_, fun X W x g h => ?_, fun X W xs g h => ?_⟩
  · cases xs with
    | nil => cases h
    | cons x xs =>
      have h' : (notStar x && ck G X.N a X.env.scope x && ckl G X.N r X.env.scope xs) = true := h
      simp only [Bool.and_eq_true] at h'
      obtain ⟨⟨h1, h2⟩, h3⟩ := h'
      obtain ⟨q1, q2⟩ := hr.2.1 X W _ g h3
      exact ⟨pa_cons2 h1 (ha.1 X W _ g h2).1 q1, fun y hy => by
        rcases List.mem_cons.mp hy with rfl | hy
        · exact h1
        · exact q2 y hy⟩
  · cases r with
    | nil =>
      cases x with
      | none => cases h
      | some x => exact po_some2 (ha.1 X W _ g h).1
    | _ => cases h
  · cases r with
    | nil =>
      match xs, h with
      | [x], h => exact pts_one (ha.1 X W _ g h).2.1
    | _ => cases h
  · have h' : (notStar x && ck G X.N a X.env.scope x && ckl G X.N r X.env.scope []) = true := h
    simp only [Bool.and_eq_true] at h'
    obtain ⟨⟨h1, h2⟩, h3⟩ := h'
    cases r with
    | nil => exact ⟨a, rfl, (ha.1 X W _ g h2).1⟩
    | _ => cases h3
  · cases xs with
    | nil => cases h
    | cons x xs =>
      have h' : (notStar x && ck G X.N a X.env.scope x && cklS G X.N r X.env.scope xs) = true := h
      simp only [Bool.and_eq_true] at h'
      obtain ⟨⟨h1, h2⟩, h3⟩ := h'
      exact pa_cons2 h1 (ha.1 X W _ g h2).1 (hr.2.2.2.2.2 X W _ g h3)
theorem snd_star {a r : E} (ha : SndE G C a) (hr : SndT G C r) : Snd G C (.star a r) := by
  refine ⟨fun X W x g h => Bool.noConfusion (show false = true from h), fun X W xs g h => Bool.noConfusion (show false = true from h), fun X W x g h => Bool.noConfusion (show false = true from h), fun X W xs g h => Bool.noConfusion (show false = true from h), fun X W x g h => Bool.noConfusion (show false = true from h), fun X W xs g h => ?_⟩
  match xs, h with
  | .Starred x p :: xs, h =>
    have h' : (ck G X.N a X.env.scope x && cklS G X.N r X.env.scope xs) = true := h
    rw [Bool.and_eq_true] at h'
    exact pa_star2 (ha X W _ g h'.1).1 (hr X W _ g h'.2)
theorem snd_junk : Snd G C .junk := mkSnd (fun X W x g h => ⟨pe_junk, pt_junk, fun _ => pw_junk⟩) (fun _ _ _ => rfl) (fun _ _ _ => rfl) (fun _ _ _ => rfl)
theorem snd_tups {es : E} (hs : SndT G C es) : Snd G C (.tups es) := by
  refine mkSnd (fun X W x g h => ?_) (fun _ _ _ => rfl) (fun _ _ _ => rfl) (fun _ _ _ => rfl)
  cases x with
  | Tuple es' k pos => exact okPlain (pe_tup2 (hs X W _ g h)) (fun _ => rfl) (fun _ _ _ => nofun)
  | _ => cases h
theorem snd_ndct : Snd G C .ndct := by
  refine mkSnd (fun X W x g h => ?_) (fun _ _ _ => rfl) (fun _ _ _ => rfl) (fun _ _ _ => rfl)
  have f : ∃ pos, x = .Dict [] [] pos := by
    cases x with
    | Dict ks vs pos =>
      match ks, vs, h with
      | [], [], h => exact ⟨pos, rfl⟩
    | _ => cases h
  obtain ⟨pos, rfl⟩ := f
  exact okPlain pe_ndct2 (fun _ => rfl) (fun _ _ _ => nofun)
theorem snd_attr (f : Nat) {a : E} (ha : SndE G C a) : Snd G C (.attr f a) := by
  refine mkSnd (fun X W x g h => ?_) (fun _ _ _ => rfl) (fun _ _ _ => rfl) (fun _ _ _ => rfl)
  cases x with
  | Attribute a' y pos =>
    have h' : (decide (nm f = y) && okBase a' && ck G X.N a X.env.scope a') = true := h
    simp only [Bool.and_eq_true, decide_eq_true_eq] at h'
    obtain ⟨⟨rfl, h1⟩, h2⟩ := h'
    exact okPlain (pe_attr2 g.fld (ha X W _ g h2).1 (base_of h1)) (fun _ => rfl) (fun _ _ _ => nofun)
  | _ => cases h
theorem snd_meth (m : Nat) {o es : E} (ho : SndE G C o) (hs : SndL G C es) : Snd G C (.meth m o es) := by
  refine mkSnd (fun X W x g h => ?_) (fun _ _ _ => rfl) (fun _ _ _ => rfl) (fun _ _ _ => rfl)
  have f : ∃ o' y ap es' pos, x = .Call (.Attribute o' y ap) es' [] pos ∧ (decide (nm m = y) && decide (m < 1104) && okBase o' && (ap.endLine == pos.line) && decide (es'.length < 30) && ck G X.N o X.env.scope o' && ckl G X.N es X.env.scope es') = true := by
    cases x with
    | Call fn args kws pos =>
      match fn, kws, h with
      | .Attribute o' y ap, [], h => exact ⟨o', y, ap, args, pos, rfl, h⟩
    | _ => cases h
  obtain ⟨o', y, ap, es', pos, rfl, h'⟩ := f
  simp only [Bool.and_eq_true, decide_eq_true_eq] at h'
  obtain ⟨⟨⟨⟨⟨⟨rfl, h1⟩, h2⟩, h3⟩, h4⟩, h5⟩, h6⟩ := h'
  obtain ⟨k, hr, hM, _⟩ := g.lev2
  have hr' := hr.mono (Nat.le_succ k)
  obtain ⟨q1, q2⟩ := hs X W _ g h6
  have q0 := (ho X W _ g h5).1
  cases es' with
  | cons e es' => exact okPlain (pe_metG hr' g.tk h1 (fun c hc => hM c m h1 hc) q0 h2 h3 q1 q2 h4) (fun _ => rfl) (fun _ _ _ => nofun)
  | nil =>
    cases es with
    | nil => exact okPlain (pe_metG0 hr' g.tk h1 (fun c hc => hM c m h1 hc) q0 h2 h3) (fun _ => rfl) (fun _ _ _ => nofun)
    | _ => cases h6
theorem snd_make (c : Nat) {es : E} (hs : SndL G C es) : Snd G C (.make c es) := by
  refine mkSnd (fun X W x g h => ?_) (fun _ _ _ => rfl) (fun _ _ _ => rfl) (fun _ _ _ => rfl)
  have f : ∃ y p e' es' pos, x = .Call (.Name y p) (e' :: es') [] pos ∧ (decide (nm c = y) && glB X.env.scope y && G.I c && ckl G X.N es X.env.scope (e' :: es')) = true := by
    cases x with
    | Call fn args kws pos =>
      match fn, args, kws, h with
      | .Name y p, e' :: es', [], h => exact ⟨y, p, e', es', pos, rfl, h⟩
    | _ => cases h
  obtain ⟨y, p, e', es', pos, rfl, h'⟩ := f
  simp only [Bool.and_eq_true, decide_eq_true_eq] at h'
  obtain ⟨⟨⟨rfl, hg⟩, hi⟩, hc⟩ := h'
  obtain ⟨k, hr, _, hI⟩ := g.lev2
  obtain ⟨h1, h2⟩ := hs X W _ g hc
  obtain ⟨g1, g2⟩ := gl_of hg
  obtain ⟨n1, n2, n3⟩ := nm_of g2
  exact okPlain (pe_makeG (hI c hi) hr g.tk g1 n1 h1 h2) (fun _ => rfl) (fun _ _ _ => nofun)
theorem snd_bm (m : Bm) {o es : E} (ho : SndE G C o) (hs : SndL G C es) : Snd G C (.bm m o es) := by
  refine mkSnd (fun X W x g h => ?_) (fun _ _ _ => rfl) (fun _ _ _ => rfl) (fun _ _ _ => rfl)
  have f : ∃ o' y ap e' es' pos, x = .Call (.Attribute o' y ap) (e' :: es') [] pos ∧ (decide (y = bmName m) && okBase o' && (ap.endLine == pos.line) && decide ((e' :: es').length < 30) && ck G X.N o X.env.scope o' && ckl G X.N es X.env.scope (e' :: es')) = true := by
    cases x with
    | Call fn args kws pos =>
      match fn, args, kws, h with
      | .Attribute o' y ap, e' :: es', [], h => exact ⟨o', y, ap, e', es', pos, rfl, h⟩
    | _ => cases h
  obtain ⟨o', y, ap, e', es', pos, rfl, h'⟩ := f
  simp only [Bool.and_eq_true, decide_eq_true_eq] at h'
  obtain ⟨⟨⟨⟨⟨rfl, h2⟩, h3⟩, h4⟩, h5⟩, h6⟩ := h'
  obtain ⟨q1, q2⟩ := hs X W _ g h6
  exact okPlain (pe_bm2 m g.hu (ho X W _ g h5).1 q1 h2 q2 h4 h3) (fun _ => rfl) (fun _ _ _ => nofun)
theorem snd_lk (src : E) {e : E} (he : SndE G C e) : Snd G C (.lk src e) := by
  refine mkSnd (fun X W x g h => ?_) (fun _ _ _ => rfl) (fun _ _ _ => rfl) (fun _ _ _ => rfl)
  cases x with
  | ListComp elt gens scope pos =>
    have h' : (true && ck G X.N e X.env.scope (.ListComp elt gens scope pos)) = true := h
    exact okPlain (pe_lk (he X W _ g h').1) (fun _ => rfl) (fun _ _ _ => nofun)
  | _ => cases h
theorem snd_prop (f : Nat) {a : E} (ha : SndE G C a) : Snd G C (.prop f a) := by
  refine mkSnd (fun X W x g h => ?_) (fun _ _ _ => rfl) (fun _ _ _ => rfl) (fun _ _ _ => rfl)
  cases x with
  | Attribute a' y pos =>
    have h' : (decide (nm f = y) && decide (f < 1104) && okBase a' && ck G X.N a X.env.scope a') = true := h
    simp only [Bool.and_eq_true, decide_eq_true_eq] at h'
    obtain ⟨⟨⟨rfl, h0⟩, h1⟩, h2⟩ := h'
    obtain ⟨k, hr, hM⟩ := g.prp h0
    exact okPlain (pe_propG hr g.tk hM (ha X W _ g h2).1 h1) (fun _ => rfl) (fun _ _ _ => nofun)
  | _ => cases h
theorem snd_tupIt {a : E} (ha : SndE G C a) : Snd G C (.tupIt a) := by
  refine mkSnd (fun X W x g h => ?_) (fun _ _ _ => rfl) (fun _ _ _ => rfl) (fun _ _ _ => rfl)
  have f : ∃ z p a' y ap cp pos, x = .Call (.Name z p) [.Call (.Attribute a' y ap) [] [] cp] [] pos ∧ (decide (z = "tuple") && decide (y = "items") && glB X.env.scope z && decide (z ∈ G.no) && okBase a' && (ap.endLine == cp.line) && ck G X.N a X.env.scope a') = true := by
    cases x with
    | Call fn args kws pos =>
      match fn, args, kws, h with
      | .Name z p, [.Call (.Attribute a' y ap) [] [] cp], [], h => exact ⟨z, p, a', y, ap, cp, pos, rfl, h⟩
    | _ => cases h
  obtain ⟨z, p, a', y, ap, cp, pos, rfl, h'⟩ := f
  simp only [Bool.and_eq_true, decide_eq_true_eq] at h'
  obtain ⟨⟨⟨⟨⟨⟨rfl, rfl⟩, h1⟩, h2⟩, h3⟩, h4⟩, h5⟩ := h'
  exact okPlain (pe_tupIt2 g.calm (ha X W _ g h5).1 (gl_of h1).1 (g.no _ h2) h3 h4) (fun _ => rfl) (fun _ _ _ => nofun)
theorem snd_gin (y : Nat) {a : E} (ha : SndE G C a) : Snd G C (.gin y a) := by
  refine mkSnd (fun X W x g h => ?_) (fun _ _ _ => rfl) (fun _ _ _ => rfl) (fun _ _ _ => rfl)
  have f : ∃ a' z p pos, x = .Compare a' [.In] [.Name z p] pos ∧ (decide (nm y = z) && glB X.env.scope z && (G.dic.lookup y).isSome && ck G X.N a X.env.scope a') = true := by
    cases x with
    | Compare a' ops bs pos =>
      match ops, bs, h with
      | [.In], [.Name z p], h => exact ⟨a', z, p, pos, rfl, h⟩
    | _ => cases h
  obtain ⟨a', z, p, pos, rfl, h'⟩ := f
  simp only [Bool.and_eq_true, decide_eq_true_eq] at h'
  obtain ⟨⟨⟨rfl, h1⟩, h2⟩, h3⟩ := h'
  obtain ⟨l, hl⟩ := Option.isSome_iff_exists.mp h2
  have D := g.dic y l hl
  obtain ⟨g1, g2⟩ := gl_of h1
  obtain ⟨n1, n2, n3⟩ := nm_of g2
  have e : ev G C (.gin y a) = fun en st => (ev G C a en st).bind fun x st => ginD (some l) x st := by
    funext en st
    show (ev G C a en st).bind (fun x st => ginD (G.dic.lookup y) x st) = _
    rw [hl]
  refine okTest ?_ ?_ (fun _ _ _ => nofun)
  · rw [e]; exact pe_gin D (ha X W _ g h3).1 g1 n1
  · show PT X _ (tT X.K W fun en st => tru (ev G C (.gin y a) en st))
    rw [e]; exact pt_gin D (ha X W _ g h3).1 g1 n1
theorem snd_gget (y : Nat) {b : E} (hb : SndE G C b) : Snd G C (.gget y b) := by
  refine mkSnd (fun X W x g h => ?_) (fun _ _ _ => rfl) (fun _ _ _ => rfl) (fun _ _ _ => rfl)
  have f : ∃ z p b' pos, x = .Subscript (.Name z p) b' pos ∧ (decide (nm y = z) && glB X.env.scope z && (G.dic.lookup y).isSome && ck G X.N b X.env.scope b' && notSlice b') = true := by
    cases x with
    | Subscript a' b' pos =>
      match a', h with
      | .Name z p, h => exact ⟨z, p, b', pos, rfl, h⟩
    | _ => cases h
  obtain ⟨z, p, b', pos, rfl, h'⟩ := f
  simp only [Bool.and_eq_true, decide_eq_true_eq] at h'
  obtain ⟨⟨⟨⟨rfl, h1⟩, h2⟩, h3⟩, h4⟩ := h'
  obtain ⟨l, hl⟩ := Option.isSome_iff_exists.mp h2
  have D := g.dic y l hl
  obtain ⟨g1, g2⟩ := gl_of h1
  obtain ⟨n1, n2, n3⟩ := nm_of g2
  have e : ev G C (.gget y b) = fun en st => (ev G C b en st).bind fun x st => ggetD (some l) x st := by
    funext en st
    show (ev G C b en st).bind (fun x st => ggetD (G.dic.lookup y) x st) = _
    rw [hl]
  refine okPlain ?_ (fun _ => rfl) (fun _ _ _ => nofun)
  rw [e]; exact pe_gget D (hb X W _ g h3).1 g1 n1 (plainIx_of h4)
theorem snd (e : E) : Snd G C e := by
  induction e with
  | nil => exact snd_nil
  | cons a r ha hr => exact snd_cons ha hr
  | star a r ha hr => exact snd_star ha.1 hr.2.2.2.2.2
  | junk => exact snd_junk
  | getT a b ha hb => exact snd_getT ha.1 hb.1
  | dc t k is un own src cond key val hs hc hk hv => exact snd_dc t k is un own hs.2.1 hs.2.2.2.2.1 hc.2.2.2.1 hk.1 hv.1
  | tups es hs => exact snd_tups hs.2.2.2.2.2
  | ndct => exact snd_ndct
  | attr f a ha => exact snd_attr f ha.1
  | meth m o es ho hs => exact snd_meth m ho.1 hs.2.1
  | make c es hs => exact snd_make c hs.2.1
  | bm m o es ho hs => exact snd_bm m ho.1 hs.2.1
  | var i => exact snd_var i
  | int i => exact snd_int i
  | str s => exact snd_str s
  | bool b => exact snd_bool b
  | non => exact snd_non
  | glo x => exact snd_glo x
  | ty n => exact snd_ty n
  | lk src e hs he => exact snd_lk src he.1
  | prop f a ha => exact snd_prop f ha.1
  | tupIt a ha => exact snd_tupIt ha.1
  | gin y a ha => exact snd_gin y ha.1
  | gget y b hb => exact snd_gget y hb.1
  | bin o a b ha hb => exact snd_bin o ha.1 hb.1
  | neg a ha => exact snd_neg ha.1
  | and a b ha hb => exact snd_and ha.1 hb.1
  | or a b ha hb => exact snd_or ha.1 hb.1
  | not a ha => exact snd_not ha.1
  | cmp o a b ha hb => exact snd_cmp o ha.1 hb.1
  | chain o o2 a b c ha hb hc => exact snd_chain o o2 ha.1 hb.1 hc.1
  | isn a ha => exact snd_isn ha.1
  | notn a ha => exact snd_notn ha.1
  | ite c a b hc ha hb => exact snd_ite hc.1 ha.1 hb.1
  | tup es hs => exact snd_tup hs.2.1
  | lst m es hs => exact snd_lst m hs.2.1
  | edct => exact snd_edct
  | idx a b ha hb => exact snd_idx ha.1 hb.1
  | get a b ha hb => exact snd_get ha.1 hb.1
  | sl a lo hi ha hl hh => exact snd_sl ha.1 hl.2.2.1 hh.2.2.1
  | rev a ha => exact snd_rev ha.1
  | bcall f es hs => exact snd_bcall f hs.2.1
  | sset a ha => exact snd_sset ha.1
  | upper a ha => exact snd_upper ha.1
  | call f es hs => exact snd_call f hs.2.1
  | callv i es hs => exact snd_callv i hs.2.1
  | callk f k e he => exact snd_callk f k he.1
  | lc k is un own src cond elt hs hc he => exact snd_lc k is un own hs.2.1 hs.2.2.2.2.1 hc.2.2.2.1 he.1
end
end Mi

set_option maxRecDepth 100000
set_option maxHeartbeats 4000000
/-! x, *rest = a list -/
namespace Mi
open PySem PySem.Spec PyProof.Rows L2
section
variable {X : Cx} {pins : List (Addr × Obj)} {σ : L2.St} {H : Hp} {s : Shared}
/-- the first item, the others in a new list -/
theorem first_rest {l : Addr} {v : V} {vs : List V} {E : Value → Shared → Prop} {Q : List Value → Shared → Prop} (hc : X.calm = true) (I : L2.Inv X pins σ H s) (hq : SqL X.K H l (v :: vs))
    (h : ∀ (d : Addr) (s' : Shared) (u : Value), H d = none → L2.Inv X pins σ (upd H d (.lst vs)) s' → RelV v u → Q [u, .ref d] s') : wpAny (model X.prog X.w) X.A (unpackItems (.ref l) 2 (some 1)) Q E s := by
  obtain ⟨its, rv, pl, hz⟩ := I.list hq
  have hl := pl.isList
  have hlt : l ≠ s.heap.objs.size := by obtain ⟨o, ho, _⟩ := hl; exact Nat.ne_of_lt (Heap.lt_size ho)
  cases rv with
  | cons ru rt =>
  rename_i u us
  have hlen := rt.length
  have hsz : us.length + 1 ≤ sizeLine := by
    have : (v :: vs).length ≤ sizeLine := by
      obtain ⟨its, rv, _, hz⟩ := I.list hq
      first | exact hz | (rw [rv.length]; exact hz) | (rw [rv.length]; simpa using hz)
    simp only [List.length_cons] at this
    omega
  unfold unpackItems
  refine wpAny_bind ?_
  unfold notIterableAtAll
  refine wpAny_bind (wpAny_specialOf hl.typeIs slot_list_iter.lookup ?_)
  refine wpAny_pure ?_
  simp only [Bool.false_eq_true, if_false]
  refine wpAny_bind (wpAny_holding (wpAny_pyIter_list hl ?_))
  refine wpAny_bind (wpAny_holding (PySem.W.kun_draw hlt 1 0 _ _ ⟨_, Heap.get?_push_size _ rfl, rfl, rfl⟩ (hl.push _) (by simp) fun h₁ hit₁ hs₁ => ?_))
  have hl₁ : h₁.IsList l (u :: us).toArray := (hl.push _).extBut hs₁.extBut hlt
  have hoi := hit₁
  obtain ⟨oi, hoi, _⟩ := hoi
  have hol := hl₁
  obtain ⟨ol, hol, _⟩ := hol
  rw [if_neg (by simp)]
  refine wpAny_bind (wpAny_holding (PySem.W.kun_collect (s := { s with heap := h₁ }) (T := "list_iterator") (k := 1) (.inr (.inr (.inl rfl))) (Walks.list (A := X.A.in1) (I.ok.hd hc) s.heap.objs.size l hlt (u :: us).toArray) (fun j u st => st.1.typeIs) (by simp) ⟨hit₁, hl₁⟩ (Heap.lt_size hoi) (Heap.lt_size hol) (fun h₂ tk hk => ?_) (by simpa using hsz)))
  have e1 : (u :: us).toArray.toList.drop 1 = us := by simp
  have e0 : (List.drop 0 (u :: us).toArray.toList).take 1 = [u] := by simp
  rw [e1, e0]
  rw [if_neg (by simp)]
  have kp : ∀ b o, s.heap.get? b = some o → h₂.get? b = some o := fun b o e =>
    have hb : b ≠ s.heap.objs.size := Nat.ne_of_lt (Heap.lt_size e)
    hk b o hb (hs₁.extBut b o hb (Heap.get?_push_of_some _ e))
  have I2 : L2.Inv X pins σ H { s with heap := h₂, toks := tk } := I.kept (t' := tk) kp
  refine wpAny_bind (wpAny_newList (wpAny_pure ?_) ?_)
  · have z := h h₂.objs.size _ u (I2.hok.fresh (Nat.le_refl _)) (I2.lnew (its := us) (t' := tk) rt (by rw [hlen]; omega)) ru
    simpa using z
  · simp
    omega
end
/-- a name and *name -/
def gStar (K : PySem.W.Frag) (i j : Nat) : TG := fun v σ H Q => ∃ l x xs, v = .ref l ∧ SqL K H l (x :: xs) ∧ ∀ d, H d = none → Q ((σ.set i (some x)).set j (some (.ref d))) (upd H d (.lst xs))
theorem pg_star {X : Cx} {i j : Nat} {a b : Str} {pa pb p1 pos : Pos} {k : Nat} (hc : X.calm = true) (hN : X.N.Nodup) (hf : ∀ x, X.fn x = true) (hi : locB X.N X.env.scope (fun _ => true) i a = true) (hj : locB X.N X.env.scope (fun _ => true) j b = true) :
    PG X (.Tuple [.Name a pa, .Starred (.Name b pb) p1] k pos) (gStar X.K i j) := by
  refine ⟨fun pins s σ H v u Q I r h => ?_⟩
  obtain ⟨l, x, xs, rfl, hq, q⟩ := h
  obtain rfl : u = Value.ref l := r
  rw [assign_Tuple]
  refine wpAny_bind (wpAny_standAt ?_)
  unfold unpack
  refine wpAny_bind (wpAny_holding (first_rest hc I hq fun d s' w hd I' rw' => ?_))
  have pgs := pgs_cons (pg_nm (pos := pa) hN (fun x _ => hf x) hi) (pgs_cons (pg_nm (pos := pb) hN (fun x _ => hf x) hj) pgs_nil)
  exact pgs.run pins s' σ _ [x, .ref d] [w, .ref d] Q I' (.cons rw' (.cons rfl .nil)) ⟨x, _, rfl, ⟨_, _, rfl, rfl, q d hd⟩⟩
end Mi

set_option maxRecDepth 100000
set_option maxHeartbeats 4000000
namespace Mi
open PySem PySem.Spec L2

/-! ### statements -/
inductive S where
  | nil | seq (a r : S)
  | pass | expr (e : E)
  | set (i : Nat) (e : E) | aug (i : Nat) (o : B2) (e : E)
  | asg (is : List Nat) (e : E) | par (is : List Nat) (es : E)
  | setItem (a i v : E)
  | ite (c : E) (a b : S) | whl (n : Nat) (c : E) (b : S) | loop (k : Ik) (is : List Nat) (un : Bool) (src : E) (b : S)
  | ret (e : E) | retN | brk | cont
  | junk | setFld (f : Nat) (o v : E) | augFld (f : Nat) (o v : E) | asgG (ts e : E) | asgS (i j : Nat) (e : E)
  | raise (c : Nat) (e : E) | tryL (i h : Nat) (b : S) (h1 f : Nat) | iso (c : Nat) (vs : List Nat) (b : S) | tryA (i j h : Nat) (b : S) (h1 f : Nat) | loopL (n : Nat) (is : List Nat) (un : Bool) (src : E) (b : S)
inductive Fl where
  | nx (en : En) | rt (d : D) | bk (en : En) | ct (en : En)
inductive RS where
  | ok (f : Fl) (st : Sto) | exc (x : Ex) (en : En) (st : Sto) | bad
def R.andS {α : Type} (r : R α) (en : En) (f : α → Sto → RS) : RS := match r with
  | .ok a st => f a st
  | .exc x st => .exc x en st
  | .bad => .bad
@[simp] theorem R.andS_ok {α : Type} (a : α) (st : Sto) (en : En) (f : α → Sto → RS) : (R.ok a st).andS en f = f a st := rfl
@[simp] theorem R.andS_exc {α : Type} (x : Ex) (st : Sto) (en : En) (f : α → Sto → RS) : (R.exc x st : R α).andS en f = .exc x en st := rfl
@[simp] theorem R.andS_bad {α : Type} (en : En) (f : α → Sto → RS) : (R.bad : R α).andS en f = .bad := rfl
/-- what comes behind -/
def RS.more (r : RS) (f : En → Sto → RS) : RS := match r with
  | .ok (.nx en) st => f en st
  | r => r
@[simp] theorem RS.more_nx (en : En) (st : Sto) (f : En → Sto → RS) : (RS.ok (.nx en) st).more f = f en st := rfl
@[simp] theorem RS.more_rt (d : D) (st : Sto) (f : En → Sto → RS) : (RS.ok (.rt d) st).more f = .ok (.rt d) st := rfl
/-- behind a loop's turn -/
def RS.turn (r : RS) (f : En → Sto → RS) : RS := match r with
  | .ok (.nx en) st => f en st
  | .ok (.ct en) st => f en st
  | .ok (.bk en) st => .ok (.nx en) st
  | r => r
@[simp] theorem RS.turn_nx (en : En) (st : Sto) (f : En → Sto → RS) : (RS.ok (.nx en) st).turn f = f en st := rfl
@[simp] theorem RS.turn_ct (en : En) (st : Sto) (f : En → Sto → RS) : (RS.ok (.ct en) st).turn f = f en st := rfl
@[simp] theorem RS.turn_bk (en : En) (st : Sto) (f : En → Sto → RS) : (RS.ok (.bk en) st).turn f = .ok (.nx en) st := rfl
@[simp] theorem RS.turn_rt (d : D) (st : Sto) (f : En → Sto → RS) : (RS.ok (.rt d) st).turn f = .ok (.rt d) st := rfl
def forRun (is : List Nat) (un : Bool) (body : En → Sto → RS) : List D → En → Sto → RS
  | [], en, st => .ok (.nx en) st
  | x :: xs, en, st => match setT is un x en with
    | none => .bad
    | some en' => (body en' st).turn fun en st => forRun is un body xs en st
/-- over a list of the store, as it stands at each turn -/
def liveRun (n : Nat) (is : List Nat) (un : Bool) (body : En → Sto → RS) : Nat → Nat → En → Sto → RS
  | 0, _, _, _ => .bad
  | m + 1, i, en, st => match st[n]? with
    | some (.lst ds) => (match ds[i]? with
      | some x => (match setT is un x en with
        | none => .bad
        | some en' => (body en' st).turn fun en st => liveRun n is un body m (i + 1) en st)
      | none => .ok (.nx en) st)
    | _ => .bad
def whlRun (cond : En → Sto → R Bool) (body : En → Sto → RS) : Nat → En → Sto → RS
  | 0, _, _ => .bad
  | n + 1, en, st => (cond en st).andS en fun b st => match b with
    | true => (body en st).turn fun en st => whlRun cond body n en st
    | false => .ok (.nx en) st
def ofO {α : Type} (o : Option α) (st : Sto) : R α := match o with
  | some x => .ok x st
  | none => .bad
def putD (ks : List KeyD) (vs : List D) (k : KeyD) (v : D) : List KeyD × List D :=
  if (ks.any fun j => decide (j = k)) = true then (ks, (ks.zip vs).map fun p => if p.1 = k then v else p.2) else (ks ++ [k], vs ++ [v])
def aug2 (o : B2) (x y : D) (st : Sto) : R D := match o, x, y with
  | .add, .int i, .int j => .ok (.int (i + j)) st
  | .sub, .int i, .int j => .ok (.int (i - j)) st
  | _, _, _ => .bad
/-- a[i] = v: the store behind it -/
def storeD (a i v : D) (st : Sto) : Option Sto := match a with
  | .loc n => (match st[n]? with
    | some (.lst ds) => (match i with
      | .int k => (match ixN ds.length k with
        | some j => some (st.set n (.lst (ds.set j v)))
        | none => none)
      | _ => none)
    | some (.dct ks vs) => (match keyD i with
      | some k => if ks.length < sz then some (st.set n (.dct (putD ks vs k v).1 (putD ks vs k v).2)) else none
      | none => none)
    | _ => none)
  | _ => none
/-- o.f += e -/
def addI : D → D → Option Int
  | .int i, .int j => some (i + j)
  | _, _ => none
def augEnd (F : Fld) (f : Nat) (en : En) (x y z : D) (st1 st2 : Sto) : RS := if clsD x st1 = clsD x st2 then (match addI y z with
    | some k => (match putFldD F f x (.int k) st2 with
      | some st' => .ok (.nx en) st'
      | none => .bad)
    | none => .bad) else .bad
def augFldR (F : Fld) (f : Nat) (mo mv : En → Sto → R D) (en : En) (st : Sto) : RS := (mo en st).andS en fun x st1 => (fldD F f x st1).andS en fun y st1 => (mv en st1).andS en fun z st2 => augEnd F f en x y z st1 st2
def lenE : E → Nat
  | .cons _ r => lenE r + 1
  | _ => 0
/-- names and fields are set, one after another -/
def asgT (G : Gs) (C : Call) : E → List D → En → Sto → RS
  | .nil, [], en, st => .ok (.nx en) st
  | .cons (.var i) r, d :: ds, en, st => asgT G C r ds (en.set i (some d)) st
  | .cons (.attr f a) r, d :: ds, en, st => (ev G C a en st).andS en fun x st => (match putFldD G.F f x d st with
    | some st' => asgT G C r ds en st'
    | none => .bad)
  | _, _, _, _ => .bad
/-- behind a block that was run by itself -/
def isoEnd (c k : Nat) (st : Sto) (r : RS) : RS := match r with
  | .ok (.rt d) st1 => if (lf d && Nat.beq c 0) = true then .ok (.rt d) st else .ok (.rt (sh k d)) (st.take k ++ st1.map (shO k))
  | _ => .bad
/-- the suite: return error.f if isinstance(error, h1) and isinstance(error, ValueError) else None -/
def suiteL (G : Gs) (h h1 f : Nat) (x : Ex) (en : En) (st : Sto) : RS := match G.exc.lookup x.cls, G.exh.lookup h, G.exh.lookup h1 with
  | some g, some s0, some s1 => (match x.fs, x.vs with
    | [g'], [d] => if g' = g then (if s0.contains x.cls = true then (if s1.contains x.cls = true then (if g = f then .ok (.rt d) st else .bad) else .ok (.rt .non) st) else .exc x en st) else .bad
    | _, _ => .bad)
  | _, _, _ => .bad
/-- the suite: x = error.f if isinstance(error, h1) and isinstance(error, ValueError) else None -/
def suiteA (G : Gs) (i j h h1 f : Nat) (x : Ex) (en : En) (st : Sto) : RS := match suiteL G h h1 f x en st with
  | .ok (.rt d) st => .ok (.nx (((en.set i none).set j (some d)).set i none)) st
  | r => r
def ex (G : Gs) (C : Call) : S → En → Sto → RS
  | .nil, en, st => .ok (.nx en) st
  | .seq a r, en, st => (ex G C a en st).more fun en st => ex G C r en st
  | .pass, en, st => .ok (.nx en) st
  | .expr e, en, st => (ev G C e en st).andS en fun _ st => .ok (.nx en) st
  | .set i e, en, st => (ev G C e en st).andS en fun d st => .ok (.nx (en.set i (some d))) st
  | .aug i o e, en, st => (match en[i]? with
    | some (some x) => (ev G C e en st).andS en fun y st => (aug2 o x y st).andS en fun z st => .ok (.nx (en.set i (some z))) st
    | _ => .bad)
  | .asg is e, en, st => (ev G C e en st).andS en fun d st => (match setT is true d en with
    | some en' => .ok (.nx en') st
    | none => .bad)
  | .par is es, en, st => (evs G C es en st).andS en fun ds st => (match setAll is ds en with
    | some en' => .ok (.nx en') st
    | none => .bad)
  | .setItem a i v, en, st => (ev G C v en st).andS en fun z st => (ev G C a en st).andS en fun x st => (ev G C i en st).andS en fun y st => (match storeD x y z st with
    | some st' => .ok (.nx en) st'
    | none => .bad)
  | .ite c a b, en, st => (tru (ev G C c en st)).andS en fun k st => (match k with
    | true => ex G C a en st
    | false => ex G C b en st)
  | .whl n c b, en, st => whlRun (fun en st => tru (ev G C c en st)) (ex G C b) n en st
  | .loop k is un src b, en, st => (evs G C src en st).andS en fun ds st => (match walkOf G k ds st with
    | none => .bad
    | some xs => forRun is un (ex G C b) xs en st)
  | .ret e, en, st => (ev G C e en st).andS en fun d st => .ok (.rt d) st
  | .retN, en, st => .ok (.rt .non) st
  | .brk, en, st => .ok (.bk en) st
  | .cont, en, st => .ok (.ct en) st
  | .loopL m is un src b, en, st => (ev G C src en st).andS en fun d st => (match d with
    | .loc n => liveRun n is un (ex G C b) m 0 en st
    | _ => .bad)
  | .raise c e, en, st => (ev G C e en st).andS en fun d st => (match G.exc.lookup c with
    | some f => .exc ⟨c, [f], [d]⟩ en st
    | none => .bad)
  | .tryL _ h b h1 f, en, st => (match ex G C b en st with
    | .exc x en' st' => suiteL G h h1 f x en' st'
    | r => r)
  | .tryA i j h b h1 f, en, st => (match ex G C b en st with
    | .exc x en' st' => suiteA G i j h h1 f x en' st'
    | r => r)
  | .iso c vs b, en, st => (match keepE (st.length - c) vs en, keepS (st.length - c) st with
    | some en0, some st0 => isoEnd c (st.length - c) st (ex G C b en0 st0)
    | _, _ => .bad)
  | .junk, _, _ => .bad
  | .asgS i j e, en, st => (ev G C e en st).andS en fun d st => (match listOf d st with
    | some (x :: xs) => .ok (.nx ((en.set i (some x)).set j (some (.lst xs)))) st
    | _ => .bad)
  | .setFld f o v, en, st => (ev G C v en st).andS en fun d st => (ev G C o en st).andS en fun x st => (match putFldD G.F f x d st with
    | some st' => .ok (.nx en) st'
    | none => .bad)
  | .augFld f o v, en, st => augFldR G.F f (ev G C o) (ev G C v) en st
  | .asgG ts e, en, st => (ev G C e en st).andS en fun d st => (match d with
    | .tup ds => if ds.length = lenE ts then asgT G C ts ds en st else .bad
    | _ => .bad)
termination_by structural s => s

/-- a def: its parameters' names, all its names, its body; whether the last parameter takes what is left over; its defaults -/
structure Df where
  ps : List Str
  N : List Str
  b : S
  va : Bool := false
  dfl : List D := []
/-- the values of all parameters -/
def fullD (d : Df) (ds : List D) : Option (List D) := match d.va with
  | true => if d.ps.length ≤ ds.length + 1 ∧ 0 < d.ps.length ∧ ds.length ≤ sz then some (ds.take (d.ps.length - 1) ++ [.tup (ds.drop (d.ps.length - 1))]) else none
  | false => if ds.length = d.ps.length then some ds else if d.ps.length ≤ ds.length + d.dfl.length ∧ ds.length ≤ d.ps.length then some (ds ++ d.dfl.drop (ds.length + d.dfl.length - d.ps.length)) else none
def bodyD (G : Gs) (C : Call) (d : Df) (es : List D) (st : Sto) : R D := match ex G C d.b (es.map some ++ List.replicate (d.N.length - es.length) none) st with
  | .ok (.nx _) st => .ok .non st
  | .ok (.rt v) st => .ok v st
  | .exc x _ st => .exc x st
  | _ => .bad
def runD (G : Gs) (C : Call) (d : Df) (ds : List D) (st : Sto) : R D := match fullD d ds with
  | some es => bodyD G C d es st
  | none => .bad
/-- calls that go n deep -/
def callN (G : Gs) (T : List (Nat × Df)) : Nat → Call
  | 0, _, _, _ => .bad
  | n + 1, f, ds, st => match T.lookup f with
    | some d => runD G (callN G T n) d ds st
    | none => .bad

/-- what is wanted behind a statement's run -/
def PostS (K : PySem.W.Frag) (io : Io) (H : Hp) (W : WX) (D : Ends) (r : RS) : Prop := match r with
  | .ok (.nx en) st => ∀ (σ : St) (io' : Io) (H' : Hp), Ext io H io' H' → StOk K H' io' st → EnvR K H' io' en σ → D.nx σ H'
  | .ok (.bk en) st => ∀ (σ : St) (io' : Io) (H' : Hp), Ext io H io' H' → StOk K H' io' st → EnvR K H' io' en σ → D.bk σ H'
  | .ok (.ct en) st => ∀ (σ : St) (io' : Io) (H' : Hp), Ext io H io' H' → StOk K H' io' st → EnvR K H' io' en σ → D.ct σ H'
  | .ok (.rt d) st => ∀ (v : V) (io' : Io) (H' : Hp), Ext io H io' H' → StOk K H' io' st → Rep K H' io' d v → D.rt v H'
  | .exc x en st => ∀ (c : Value) (dx : Option Addr) (σ : St) (io' : Io) (H' : Hp), Ext io H io' H' → StOk K H' io' st → EnvR K H' io' en σ → ExAt K H' io' x c dx → W c dx σ H'
  | .bad => False
def tS (K : PySem.W.Frag) (W : WX) (m : En → Sto → RS) : TS := fun D σ H => ∃ en st io, EnvR K H io en σ ∧ StOk K H io st ∧ PostS K io H W D (m en st)
section
variable {K : PySem.W.Frag} {io io' : Io} {H H' : Hp} {W : WX} {D D' : Ends} {r : RS}
theorem PostS.moved (x : Ext io H io' H') (p : PostS K io H W D r) : PostS K io' H' W D r := by
  cases r with
  | ok f st => cases f <;> exact fun σ i2 H2 x2 s e => p σ i2 H2 (x.trans x2) s e
  | exc y en st => exact fun c dx σ i2 H2 x2 s e q => p c dx σ i2 H2 (x.trans x2) s e q
  | bad => exact p
theorem PostS.nxt {en : En} {st : Sto} {σ : St} (p : PostS K io H W D (.ok (.nx en) st)) (so : StOk K H io st) (er : EnvR K H io en σ) : D.nx σ H := p σ io H (Ext.refl _ _) so er
/-- an expression first -/
theorem PostS.andS {α β : Type} {Rp : Hp → Io → α → β → Prop} {m : R α} {f : α → Sto → RS} {en : En} {σ : St} (er : EnvR K H io en σ) (p : PostS K io H W D (m.andS en f)) :
    Post K io H (fun c d H' => W c d σ H') Rp m fun v H1 => ∃ d io1 st1, Ext io H io1 H1 ∧ StOk K H1 io1 st1 ∧ EnvR K H1 io1 en σ ∧ Rp H1 io1 d v ∧ PostS K io1 H1 W D (f d st1) := by
  cases m with
  | ok a st => exact fun v io1 H1 x so rp => ⟨a, io1, st, x, so, er.ext x, rp, p.moved x⟩
  | exc y st => exact fun c dx io1 H1 x so q => p c dx σ io1 H1 x so (er.ext x) q
  | bad => exact p
/-- then what comes behind -/
theorem PostS.more {f : En → Sto → RS} (p : PostS K io H W D (r.more f)) : PostS K io H W { D with nx := tS K W f D } r := by
  cases r with
  | ok fl st =>
    cases fl with
    | nx en => exact fun σ io1 H1 x so er => ⟨en, st, io1, er, so, p.moved x⟩
    | _ => exact p
  | exc _ _ _ => exact p
  | bad => exact p
theorem PostS.turn {f : En → Sto → RS} {N : St → Hp → Prop} (p : PostS K io H W D (r.turn f)) (hN : ∀ en st σ io1 H1, Ext io H io1 H1 → EnvR K H1 io1 en σ → StOk K H1 io1 st → PostS K io1 H1 W D (f en st) → N σ H1) : PostS K io H W { D with nx := N, ct := N, bk := D.nx } r := by
  cases r with
  | ok fl st =>
    cases fl with
    | nx en => exact fun σ io1 H1 x so er => hN en st σ io1 H1 x er so (p.moved x)
    | ct en => exact fun σ io1 H1 x so er => hN en st σ io1 H1 x er so (p.moved x)
    | bk en => exact p
    | rt d => exact p
  | exc _ _ _ => exact p
  | bad => exact p
end
end Mi

set_option maxRecDepth 100000
set_option maxHeartbeats 4000000
/-! statements that store into objects -/
namespace Mi
open PySem PySem.Spec PyProof.Rows L2

theorem swaps_attr (v o : Expr) (f : Str) (p : Pos) (l : Nat) (env : Env) : swapsWith v (some (.Attribute o f p)) l env = pure false := by
  cases v <;> rfl
theorem swaps_sub (v o i : Expr) (p : Pos) (l : Nat) (env : Env) : swapsWith v (some (.Subscript o i p)) l env = pure false := by
  cases v <;> rfl
section
variable {X : Cx} {W : WX} {o e : Expr} {mo mv : En → Sto → R D} {F : Fld} {f : Nat} {pos p' : Pos}
theorem ps_setFld2 (hF : FldOk X.K F) (ho : PE X o (tE X.K W mo)) (hv : PE X e (tE X.K W mv)) : PS X (.Assign [.Attribute o (nm f) p'] e pos) (tS X.K W fun en st => (mv en st).andS en fun v st => (mo en st).andS en fun x st => match putFldD F f x v st with
    | some st' => .ok (.nx en) st'
    | none => .bad) := by
  refine PSimp (ps_fld ho hv (swaps_attr _ _ _ _ _ _)) fun D σ H ⟨en, st, io, er, so, p⟩ => ?_
  refine ⟨en, st, io, er, so, (PostS.andS (Rp := RpD X.K) er p).mono fun y H1 ⟨d, io1, st1, x1, so1, er1, rd, p1⟩ => ?_⟩
  refine ⟨en, st1, io1, er1, so1, (PostS.andS (Rp := RpD X.K) er1 p1).mono fun x H2 ⟨d2, io2, st2, x2, so2, er2, rd2, p2⟩ => ?_⟩
  cases q : putFldD F f d2 d st2 with
  | none => rw [q] at p2; exact p2.elim
  | some st' =>
    rw [q] at p2
    obtain ⟨a, C, dx, fs, _, e1, eH, c1, c2, hl, X3, so3⟩ := putFldD_at hF q so2 rd2 (Rep.ext x2 _ _ rd)
    exact ⟨a, _, dx, fs, e1, eH, c1, c2, hl, (p2.moved X3).nxt so3 (er2.ext X3)⟩
/-- a target that is an object's field -/
def gAttr (K : PySem.W.Frag) (to : TE) (f : Str) : TG := fun y σ H Q => to σ H fun x H1 => ∃ a C dx fs, x = .ref a ∧ H1 a = some (.ins C dx fs) ∧ Cls K C ∧ NoAttr K C f ∧ fs.length < 1000 ∧ Q σ (upd H1 a (.ins C dx (putF f y fs)))
theorem pg_attr {to : TE} {g : Str} (ho : PE X o to) : PG X (.Attribute o g pos) (gAttr X.K to g) := by
  refine ⟨fun pins s σ H v u Q I r h => ?_⟩
  rw [arm_assign_Attribute]
  refine wpAny_bind (wpAny_holding (thn (ho.run pins s σ H _ I h) fun w s1 ⟨x, H1, I1, rx, a, C, dx, fs, ex, ea, c, n, l, q⟩ => ?_))
  subst ex
  obtain rfl : w = Value.ref a := rx
  refine wpAny_bind (wpAny_standAt ?_)
  refine wpAny_bind (wpAny_holding (setattr_ok I1 ea c n l r fun s2 I2 => ?_))
  exact wpAny_release ⟨σ, _, I2, q⟩
theorem fldD_noexc {x : D} {st st' : Sto} {y : Ex} : fldD F f x st ≠ .exc y st' := by
  intro q
  unfold fldD at q
  split at q
  · split at q
    · split at q
      · rename_i fs vs _ _
        cases hk : lookN fs vs f with
        | none => rw [hk] at q; cases q
        | some _ => rw [hk] at q; cases q
      · cases q
    · cases q
  · cases q
theorem ps_augFld2 (hF : FldOk X.K F) (ho : PE X o (tE X.K W mo)) (hv : PE X e (tE X.K W mv)) : PS X (.AugAssign (.Attribute o (nm f) p') .Add e pos) (tS X.K W (augFldR F f mo mv)) := by
  refine PSimp (ps_fldaug ho hv in_add) fun D σ H ⟨en, st, io, er, so, p⟩ => ?_
  refine ⟨en, st, io, er, so, (PostS.andS (Rp := RpD X.K) er p).mono fun v H1 ⟨x, io1, st1, x1, so1, er1, rx, p1⟩ => ?_⟩
  cases q : fldD F f x st1 with
  | exc _ _ => exact absurd q fldD_noexc
  | bad => rw [q] at p1; exact p1.elim
  | ok y st' =>
    rw [q] at p1
    obtain ⟨rfl, a, c, dx, fs, u, hc, rfl, eH, c1, c2, l, ru⟩ := fldD_at hF q so1 rx
    have p1' : PostS X.K io1 H1 W D ((mv en st').andS en fun z st2 => augEnd F f en x y z st' st2) := p1
    refine ⟨a, _, dx, fs, u, rfl, eH, c1, c2, l, en, st', io1, er1, so1, (PostS.andS (Rp := RpD X.K) er1 p1').mono fun w H2 ⟨z, io2, st2, x2, so2, er2, rz, p2⟩ => ?_⟩
    unfold augEnd at p2
    by_cases hcc : clsD x st' = clsD x st2
    · rw [if_pos hcc] at p2
      cases hk : addI y z with
      | none => rw [hk] at p2; exact p2.elim
      | some k =>
        rw [hk] at p2
        have hij : ∃ i j, y = .int i ∧ z = .int j ∧ k = i + j := by
          unfold addI at hk
          split at hk
          · cases hk; exact ⟨_, _, rfl, rfl, rfl⟩
          · cases hk
        obtain ⟨i, j, rfl, rfl, rfl⟩ := hij
        cases ru
        cases rz
        refine ⟨i, j, rfl, rfl, ?_⟩
        dsimp only at p2
        cases q2 : putFldD F f x (.int (i + j)) st2 with
        | none => rw [q2] at p2; exact p2.elim
        | some st3 =>
          rw [q2] at p2
          obtain ⟨a', c', dx', fs', hc', e1, eH', c1', c2', hl, X3, so3⟩ := putFldD_at hF q2 so2 (Rep.ext x2 _ _ rx) (y := .int (i + j)) rfl
          cases e1
          rw [← hcc, hc] at hc'
          cases hc'
          exact ⟨dx', fs', eH', hl, (p2.moved X3).nxt so3 (er2.ext X3)⟩
    · rw [if_neg hcc] at p2; exact p2.elim
end

/-! ### several targets, names and fields -/
def cktG (G : Gs) (N : List Str) (sc : Scope) : E → List Expr → Bool
  | .nil, [] => true
  | .cons (.var i) r, .Name x _ :: es => locB N sc (fun _ => true) i x && cktG G N sc r es
  | .cons (.attr f a) r, .Attribute o y _ :: es => decide (nm f = y) && ck G N a sc o && cktG G N sc r es
  | _, _ => false
def gG (K : PySem.W.Frag) (W : WX) (m : List D → En → Sto → RS) : TGs := fun vs σ H Q => ∃ en st io ds, EnvR K H io en σ ∧ StOk K H io st ∧ RepL K H io ds vs ∧ PostS K io H W { nx := Q, rt := fun _ _ => False } (m ds en st)
section
variable {G : Gs} {C : Call} {X : Cx} {W : WX}
theorem pgs_G (g : Good G C X W) (hf : ∀ x, X.fn x = true) : ∀ (ts : E) (es : List Expr), cktG G X.N X.env.scope ts es = true → PGs X es (gG X.K W (asgT G C ts)) ∧ lenE ts = es.length ∧ (assignEach es X.env).length = es.length ∧ (assignEach es X.env).findIdx? (·.1) = none
  | .nil, [], _ => ⟨PGsimp pgs_nil fun v σ H Q ⟨en, st, io, ds, er, so, r, p⟩ => by
      cases ds with
      | nil => cases r; exact ⟨rfl, p.nxt so er⟩
      | cons _ _ => exact p.elim, rfl, rfl, rfl⟩
  | .cons (.var i) r, .Name x pos :: es, h => by
    unfold cktG at h
    rw [Bool.and_eq_true] at h
    obtain ⟨h1, h2, h3, h4⟩ := pgs_G g hf r es h.2
    refine ⟨PGsimp (pgs_cons (pg_nm g.nd (fun x _ => hf x) h.1) h1) fun v σ H Q ⟨en, st, io, ds, er, so, rl, p⟩ => ?_, by simp [lenE, h2], ?_, ?_⟩
    · cases ds with
      | nil => exact p.elim
      | cons d ds =>
        obtain ⟨u, us, rfl, r1, r2⟩ := rl
        exact ⟨u, us, rfl, en.set i (some d), st, io, ds, er.set r1, so, r2, p⟩
    · show ((false, assign (.Name x pos) X.env) :: assignEach es X.env).length = _
      rw [List.length_cons, h3, List.length_cons]
    · show ((false, assign (.Name x pos) X.env) :: assignEach es X.env).findIdx? (·.1) = none
      rw [List.findIdx?_cons, h4]
      rfl
  | .cons (.attr f a) r, .Attribute o y pos :: es, h => by
    unfold cktG at h
    simp only [Bool.and_eq_true, decide_eq_true_eq] at h
    obtain ⟨⟨rfl, ho⟩, hr⟩ := h
    obtain ⟨h1, h2, h3, h4⟩ := pgs_G g hf r es hr
    refine ⟨PGsimp (pgs_cons (pg_attr ((snd a).1 X W o g ho).1) h1) fun v σ H Q ⟨en, st, io, ds, er, so, rl, p⟩ => ?_, by simp [lenE, h2], ?_, ?_⟩
    · cases ds with
      | nil => exact p.elim
      | cons d ds =>
        obtain ⟨u, us, rfl, r1, r2⟩ := rl
        refine ⟨u, us, rfl, ?_⟩
        have p' : PostS X.K io H W { nx := Q, rt := fun _ _ => False } ((ev G C a en st).andS en fun x st => (match putFldD G.F f x d st with
          | some st' => asgT G C r ds en st'
          | none => .bad)) := p
        refine ⟨en, st, io, er, so, (PostS.andS (Rp := RpD X.K) er p').mono fun v H1 ⟨x, io1, st1, x1, so1, er1, rx, p1⟩ => ?_⟩
        cases q : putFldD G.F f x d st1 with
        | none => rw [q] at p1; exact p1.elim
        | some st' =>
          rw [q] at p1
          obtain ⟨a', c, dx, fs, _, e1, eH, c1, c2, hl, X3, so3⟩ := putFldD_at g.fld q so1 rx (Rep.ext x1 _ _ r1)
          exact ⟨a', _, dx, fs, e1, eH, c1, c2, hl, en, st', io1, ds, er1.ext X3, so3, RepL.ext X3 _ _ (RepL.ext x1 _ _ r2), p1.moved X3⟩
    · show ((false, assign (.Attribute o (nm f) pos) X.env) :: assignEach es X.env).length = _
      rw [List.length_cons, h3, List.length_cons]
    · show ((false, assign (.Attribute o (nm f) pos) X.env) :: assignEach es X.env).findIdx? (·.1) = none
      rw [List.findIdx?_cons, h4]
      rfl
  | .nil, _ :: _, h => by simp [cktG] at h
end
end Mi

set_option maxRecDepth 100000
set_option maxHeartbeats 4000000
namespace Mi
open PySem PySem.Spec L2

/-! ### the statements are the text's -/
def notComp : Expr → Bool
  | .ListComp _ _ _ _ => false
  | .SetComp _ _ _ _ => false
  | .DictComp _ _ _ _ _ => false
  | _ => true
def notTup : Expr → Bool
  | .Tuple _ _ _ => false
  | _ => true
def locOnly (N : List Str) (sc : Scope) (i : Nat) (x : Str) : Bool := decide (N[i]? = some x) && (match sc.names.lookup x with
  | some .local => true
  | _ => false)
/-- a comprehension that is swapped into its name -/
def swapB (sc : Scope) (y : Str) (py : Pos) : Expr → Bool
  | .ListComp _ _ scope pos => (match sc.names.lookup y with
    | some .local => true
    | _ => false) && (py.line == pos.line) && !(scope.names.any fun (n, k) => n == y && (k == .local || k == .cell))
  | _ => false
/-- the stores of a, b = x, y are swapped -/
def swapStB (vs : List Expr) : Bool := !(vs.any fun | .Starred .. => true | _ => false) && !(vs.all (foldedForSure 8)) && !(vs.all (constantsAlone 8))
def augB : B2 → Bool
  | .add => true
  | .sub => true
  | _ => false
/-- the tuple on the right is built and taken apart: nothing is swapped -/
def notLoc (sc : Scope) : Expr → Bool
  | .Name x _ => !(sc.names.lookup x == some .local)
  | _ => true
def nswB (sc : Scope) (ts : List Expr) : Expr → Bool
  | .Tuple vs _ _ => ts.any (notLoc sc) || decide (3 < ts.length) || vs.all (foldedForSure 8)
  | _ => true
def ckSuA (N : List Str) (sc : Scope) (j : Nat) (n y1 g : Str) : List Stmt → Bool
  | [.Assign [.Name y _] e _] => locB N sc (fun _ => true) j y && ckSuE n y1 g e
  | _ => false
theorem ckSuE_of {n y1 g : Str} {e : Expr} (h : ckSuE n y1 g e = true) : ∃ t a b p1, e = .IfExp t a b p1 ∧ ckAnd2 n y1 "ValueError" t = true ∧ ckXf n g a = true ∧ ckNone b = true := by
  unfold ckSuE at h
  split at h
  · simp only [Bool.and_eq_true] at h
    obtain ⟨⟨h1, h2⟩, h3⟩ := h
    exact ⟨_, _, _, _, rfl, h1, h2, h3⟩
  · cases h
theorem ckSuA_of {N : List Str} {sc : Scope} {j : Nat} {n y1 g : Str} {su : List Stmt} (h : ckSuA N sc j n y1 g su = true) : ∃ y p1 e p2, su = [.Assign [.Name y p1] e p2] ∧ locB N sc (fun _ => true) j y = true ∧ ckSuE n y1 g e = true := by
  unfold ckSuA at h
  split at h
  · rw [Bool.and_eq_true] at h
    exact ⟨_, _, _, _, rfl, h⟩
  · cases h
mutual
def cks (G : Gs) (N : List Str) : S → Scope → Stmt → Bool
  | .pass, _, .Pass _ => true
  | .pass, _, .Expr (.Constant (.str _) _ _) _ => true
  | .expr e, sc, .Expr x _ => notComp x && ck G N e sc x
  | .set i e, sc, .Assign [.Name y py] x _ => locB N sc (fun _ => true) i y && ck G N e sc x && (notComp x || swapB sc y py x)
  | .aug i o e, sc, .AugAssign (.Name y _) o' x _ => locB N sc (fun _ => true) i y && decide (o' = op2 o) && ck G N e sc x && augB o
  | .asg is e, sc, .Assign [.Tuple ts _ _] x _ => ckts N sc (fun _ => true) is ts && ck G N e sc x && notComp x && notTup x
  | .par [i, j] es, sc, .Assign [.Tuple [.Name a pa, .Name b pb] _ _] (.Tuple [x, y] _ _) _ => locOnly N sc i a && locOnly N sc j b && decide (i ≠ j) && decide (a ≠ b) && decide (pb.line = pa.line) && swapStB [x, y] && ckl G N es sc [x, y]
  | .par [i, j, l] es, sc, .Assign [.Tuple [.Name a pa, .Name b pb, .Name c pc] _ _] (.Tuple [x, y, z] _ _) _ => locOnly N sc i a && locOnly N sc j b && locOnly N sc l c && decide (i ≠ j) && decide (i ≠ l) && decide (j ≠ l) &&
      decide (a ≠ b) && decide (a ≠ c) && decide (b ≠ c) && decide (pb.line = pa.line) && decide (pc.line = pa.line) && swapStB [x, y, z] && ckl G N es sc [x, y, z]
  | .setItem a i v, sc, .Assign [.Subscript a' i' _] x _ => ck G N v sc x && ck G N a sc a' && ck G N i sc i' && notSlice i' && notComp x
  | .ite c a b, sc, .If c' a' b' _ => ck G N c sc c' && ckb G N a sc a' && ckb G N b sc b'
  | .whl _ c b, sc, .While c' b' [] _ => ck G N c sc c' && ckb G N b sc b'
  | .loop k is un src b, sc, .For tg iter b' [] _ => ckw G sc k (fun xs => ckl G N src sc xs) tg iter && ckt N sc (fun _ => true) is un tg && ckb G N b sc b'
  | .ret e, sc, .Return (some x) _ => ck G N e sc x
  | .retN, _, .Return none _ => true
  | .brk, _, .Break _ => true
  | .cont, _, .Continue _ => true
  | .junk, _, _ => true
  | .loopL _ is un src b, sc, .For tg iter b' [] _ => ck G N src sc iter && notSet iter && ckt N sc (fun _ => true) is un tg && ckb G N b sc b'
  | .raise c e, sc, .Raise (some (.Call (.Name y _) [e'] [] _)) none _ => decide (nm c = y) && glB sc y && (G.exc.lookup c).isSome && notStar e' && ck G N e sc e'
  | .tryL i h b h1 f, sc, .Try b' [.ExceptHandler (some (.Name y _)) (some n) su _] [] [] _ =>
      decide (nm h = y) && glB sc y && (G.exh.lookup h).isSome && locOnly N sc i n && plainNm n && glB sc "isinstance" && decide (("isinstance" : Str) ∈ G.no) &&
      glB sc (nm h1) && (G.exh.lookup h1).isSome && glB sc "ValueError" && decide (("ValueError" : Str) ∈ G.no) && ckSu n (nm h1) (nm f) su && ckb G N b sc b'
  | .tryA i j h b h1 f, sc, .Try b' [.ExceptHandler (some (.Name y _)) (some n) su _] [] [] _ =>
      decide (nm h = y) && glB sc y && (G.exh.lookup h).isSome && locOnly N sc i n && plainNm n && glB sc "isinstance" && decide (("isinstance" : Str) ∈ G.no) &&
      glB sc (nm h1) && (G.exh.lookup h1).isSome && glB sc "ValueError" && decide (("ValueError" : Str) ∈ G.no) && ckSuA N sc j n (nm h1) (nm f) su && ckb G N b sc b'
  | .asgS i j e, sc, .Assign [.Tuple [.Name a _, .Starred (.Name b _) _] _ _] x _ => locB N sc (fun _ => true) i a && locB N sc (fun _ => true) j b && ck G N e sc x && notComp x && notTup x
  | .setFld f o v, sc, .Assign [.Attribute o' y _] x _ => decide (nm f = y) && ck G N o sc o' && ck G N v sc x
  | .augFld f o v, sc, .AugAssign (.Attribute o' y _) .Add x _ => decide (nm f = y) && ck G N o sc o' && ck G N v sc x
  | .asgG ts e, sc, .Assign [.Tuple ts' _ _] x _ => cktG G N sc ts ts' && ck G N e sc x && notComp x && nswB sc ts' x
  | _, _, _ => false
termination_by structural s => s
def ckb (G : Gs) (N : List Str) : S → Scope → List Stmt → Bool
  | .nil, _, [] => true
  | .seq a r, sc, a' :: r' => cks G N a sc a' && ckb G N r sc r'
  | .junk, _, _ => true
  | .iso _ _ b, sc, xs => ckb G N b sc xs
  | _, _, _ => false
termination_by structural s => s
end
structure GoodS (G : Gs) (C : Call) (X : Cx) (W : WX) : Prop where
  g : Good G C X W
  fn : ∀ x, X.fn x = true
  po : PassesOwn (model X.prog X.w) X.A X.env X.xe
  stk : X.stack = X.env :: X.outer
  frm : X.env.frame = some X.env.locals
def OkS (G : Gs) (C : Call) (s : S) : Prop := ∀ (X : Cx) (W : WX), GoodS G C X W → (∀ x, cks G X.N s X.env.scope x = true → PS X x (tS X.K W (ex G C s))) ∧ (∀ xs, ckb G X.N s X.env.scope xs = true → PSs X xs (tS X.K W (ex G C s)))
section
variable {G : Gs} {C : Call} {X : Cx} {W : WX} {x : Expr} {pos : Pos}
theorem noswap {b : Expr} (h : notComp b = true) (t : Option Expr) (l : Nat) (env : Env) : swapsWith b t l env = pure false := by
  cases b <;> first | rfl | cases h
theorem mkOkS {s : S} (h : ∀ (X : Cx) (W : WX), GoodS G C X W → ∀ x, cks G X.N s X.env.scope x = true → PS X x (tS X.K W (ex G C s))) (h2 : ∀ N sc xs, ckb G N s sc xs = false) : OkS G C s :=
  fun X W g => ⟨h X W g, fun xs q => by rw [h2] at q; cases q⟩
theorem ps_junk {W : WX} {s : Stmt} : PS X s (tS X.K W fun _ _ => .bad) := ⟨fun pins s σ H Q I ⟨en, st, io, er, so, p⟩ => p.elim⟩
theorem pss_junk {W : WX} {s : List Stmt} : PSs X s (tS X.K W fun _ _ => .bad) := ⟨fun pins s σ H Q I ⟨en, st, io, er, so, p⟩ => p.elim⟩
theorem oks_ret (e : E) : OkS G C (.ret e) := by
  refine mkOkS (fun X W g st h => ?_) (fun _ _ _ => rfl)
  cases st with
  | Return v pos =>
    cases v with
    | none => cases h
    | some x =>
      refine PSimp (ps_ret ((snd e).1 X W x g.g h).1) fun D σ H ⟨en, st, io, er, so, p⟩ => ?_
      exact ⟨en, st, io, er, so, (PostS.andS (Rp := RpD X.K) er p).mono fun v H1 ⟨d, io1, st1, x, so1, er1, rd, p1⟩ => p1 v io1 H1 (Ext.refl _ _) so1 rd⟩
  | _ => cases h
theorem oks_retN : OkS G C .retN := by
  refine mkOkS (fun X W g st h => ?_) (fun _ _ _ => rfl)
  cases st with
  | Return v pos =>
    cases v with
    | none => exact PSimp ps_retN fun D σ H ⟨en, st, io, er, so, p⟩ => p .non io H (Ext.refl _ _) so rfl
    | some x => cases h
  | _ => cases h
theorem oks_brk : OkS G C .brk := by
  refine mkOkS (fun X W g st h => ?_) (fun _ _ _ => rfl)
  cases st with
  | Break pos => exact PSimp ps_break fun D σ H ⟨en, st, io, er, so, p⟩ => p σ io H (Ext.refl _ _) so er
  | _ => cases h
theorem oks_cont : OkS G C .cont := by
  refine mkOkS (fun X W g st h => ?_) (fun _ _ _ => rfl)
  cases st with
  | Continue pos => exact PSimp ps_continue fun D σ H ⟨en, st, io, er, so, p⟩ => p σ io H (Ext.refl _ _) so er
  | _ => cases h
theorem oks_pass : OkS G C .pass := by
  refine mkOkS (fun X W g st h => ?_) (fun _ _ _ => rfl)
  cases st with
  | Pass pos => exact PSimp ps_pass fun D σ H ⟨en, st, io, er, so, p⟩ => p σ io H (Ext.refl _ _) so er
  | Expr x pos =>
    match x, h with
    | .Constant (.str _) _ _, h => exact PSimp ps_doc fun D σ H ⟨en, st, io, er, so, p⟩ => p σ io H (Ext.refl _ _) so er
  | _ => cases h
theorem oks_expr (e : E) : OkS G C (.expr e) := by
  refine mkOkS (fun X W g st h => ?_) (fun _ _ _ => rfl)
  cases st with
  | Expr x pos =>
    have h' : (notComp x && ck G X.N e X.env.scope x) = true := h
    rw [Bool.and_eq_true] at h'
    refine PSimp (ps_expr ((snd e).1 X W x g.g h'.2).1 (noswap h'.1 _ _ _)) fun D σ H ⟨en, st, io, er, so, p⟩ => ?_
    exact ⟨en, st, io, er, so, (PostS.andS (Rp := RpD X.K) er p).mono fun v H1 ⟨d, io1, st1, x, so1, er1, rd, p1⟩ => p1.nxt so1 er1⟩
  | _ => cases h
theorem fn_loc (g : GoodS G C X W) {i : Nat} {y : Str} (h : locB X.N X.env.scope (fun _ => true) i y = true) : X.N[i]? = some y ∧ Loc X.env.scope y ∧ (X.fn y = true ∨ X.env.scope.names.lookup y = some .local) :=
  let ⟨h1, h2, _⟩ := loc_of h
  ⟨h1, h2, .inl (g.fn y)⟩
theorem ps_lkSet {s : Stmt} {i : Nat} {src e : E} (h : PS X s (tS X.K W (ex G C (.set i e)))) : PS X s (tS X.K W (ex G C (.set i (.lk src e)))) := by
  refine ⟨fun pins s σ H D I hw => ?_⟩
  obtain ⟨en, st, io, er, so, p⟩ := hw
  have p' : PostS X.K io H W D ((match lockAt (ev G C src en st) st with
    | some p => unlockR p.1 (ev G C e en p.2)
    | none => ev G C e en st).andS en fun d st => .ok (.nx (en.set i (some d))) st) := p
  cases hl : lockAt (ev G C src en st) st with
  | none => rw [hl] at p'; exact h.run pins s σ H D I ⟨en, st, io, er, so, p'⟩
  | some z =>
    obtain ⟨n, st1⟩ := z
    rw [hl] at p'
    dsimp only at p'
    have hk : lockS n st = some st1 := by
      unfold lockAt at hl
      split at hl
      · split at hl
        · rename_i q; cases hl; exact q
        · cases hl
      · cases hl
    obtain ⟨a, u, ea, hH, mu, nf, nt, F⟩ := so.lockS hk
    refine (ps_lock h).run pins s σ H D I ⟨a, u, hH, mu, fun od => ?_⟩
    obtain ⟨x, s1⟩ := F od
    refine ⟨en, st1, io, er.ext x, s1, ?_⟩
    show PostS X.K io _ W _ ((ev G C e en st1).andS en fun d st => .ok (.nx (en.set i (some d))) st)
    cases r : ev G C e en st1 with
    | bad => rw [r] at p'; exact p'
    | exc y st2 => rw [r] at p'; exact p'.elim
    | ok d st2 =>
      rw [r] at p'
      intro σ' io' H' x2 s2 er2
      have hf : H' a = some (.frz od u) := x2.frzs a od u upd_same
      refine ⟨hf, ?_⟩
      unfold unlockR at p'
      dsimp only at p'
      cases hu : unlockS n st2 with
      | none => rw [hu] at p'; exact p'.elim
      | some st3 =>
        rw [hu] at p'
        have ea2 : io'.get n = some a := x2.at ea
        have mv := Mv0.unlock hf (Io.get_mem ea2) u
        exact p' σ' io' _ (Ext.unlock hH nf nt (Io.get_mem ea) x2) (s2.unlockS ea2 hf hu) ⟨er2.1, fun j d e => let ⟨v, e1, r⟩ := er2.2 j d e; ⟨v, e1, Rep.mv0 mv d v r⟩⟩
theorem set_im {i : Nat} {e : E} : ∀ D σ H, tS X.K W (ex G C (.set i e)) D σ H → tE X.K W (ev G C e) σ H (fun v H1 => gName i v σ H1 D.nx) := fun D σ H ⟨en, st, io, er, so, p⟩ =>
    ⟨en, st, io, er, so, (PostS.andS (Rp := RpD X.K) er p).mono fun v H1 ⟨d, io1, st1, x, so1, er1, rd, p1⟩ => p1.nxt so1 (er1.set rd)⟩
theorem set_swap (g : GoodS G C X W) {i : Nat} {y : Str} {py : Pos} (h1 : locB X.N X.env.scope (fun _ => true) i y = true) : ∀ (e : E) (x : Expr), ck G X.N e X.env.scope x = true → swapB X.env.scope y py x = true → PS X (.Assign [.Name y py] x pos) (tS X.K W (ex G C (.set i e)))
  | .lk src e, x, h2, h3 => by
    cases x with
    | ListComp elt gens scope lpos =>
      have h' : (true && ck G X.N e X.env.scope (.ListComp elt gens scope lpos)) = true := h2
      exact ps_lkSet (set_swap g h1 e _ h' h3)
    | _ => cases h2
  | .lc k is un own src cond elt, x, h2, h3 => by
    obtain ⟨n1, n2, n3⟩ := fn_loc g h1
    obtain ⟨elt', tg, iter, ifs, scope, lpos, rfl, q1, q2, q3, q4, q5, q6, q7⟩ := ck_lc h2
    have h3' : ((match X.env.scope.names.lookup y with
      | some .local => true
      | _ => false) && (py.line == lpos.line) && !(scope.names.any fun (n, k) => n == y && (k == .local || k == .cell))) = true := h3
    simp only [Bool.and_eq_true, Bool.not_eq_true'] at h3'
    obtain ⟨⟨l1, l2⟩, l3⟩ := h3'
    have hl : X.env.scope.names.lookup y = some .local := by
      split at l1
      · assumption
      · cases l1
    have ok := blkOk_by q1
    have gb := fun s H Cc cl fp => g.g.blk ok.kind s H Cc cl fp
    refine PSimp (ps_setLc (g := gT X.K is un) (te := tE X.K WF (ev G C elt)) (tt := tT X.K WF (evc G C cond)) g.g.calm g.g.nd n1 hl (sw_true g.g.kind hl l2 l3) (walk_ok (snd src).2.1 (snd src).2.2.2.2.1 g.g q2).1 ok (fun s H Cc cl fp => pg_ok (X := X.blk s H scope (compEnvC scope cl Cc X.env) fp) g.g.calm g.g.nd (fun _ h => h) q3)
      (fun s H Cc cl fp => (snd cond).2.2.2.1 _ WF _ (gb s H Cc cl fp) q6) (fun s H Cc cl fp => ((snd elt).1 _ WF _ (gb s H Cc cl fp) q7).1) (fold_of q5 _)) fun D σ H h => ?_
    exact lc_imp q4 (set_im D σ H h)
  | .junk, x, h2, h3 => PSimp ps_junk fun D σ H ⟨en, st, io, er, so, p⟩ => ⟨en, st, io, er, so, p⟩
  | .nil, x, h2, h3 => by exfalso; cases x <;> first | (cases h3; done) | (cases h2; done)
  | .cons _ _, x, h2, h3 => by exfalso; cases x <;> first | (cases h3; done) | (cases h2; done)
  | .var _, x, h2, h3 => by exfalso; cases x <;> first | (cases h3; done) | (cases h2; done)
  | .int _, x, h2, h3 => by exfalso; cases x <;> first | (cases h3; done) | (cases h2; done)
  | .str _, x, h2, h3 => by exfalso; cases x <;> first | (cases h3; done) | (cases h2; done)
  | .bool _, x, h2, h3 => by exfalso; cases x <;> first | (cases h3; done) | (cases h2; done)
  | .non, x, h2, h3 => by exfalso; cases x <;> first | (cases h3; done) | (cases h2; done)
  | .glo _, x, h2, h3 => by exfalso; cases x <;> first | (cases h3; done) | (cases h2; done)
  | .ty _, x, h2, h3 => by exfalso; cases x <;> first | (cases h3; done) | (cases h2; done)
  | .bin _ _ _, x, h2, h3 => by exfalso; cases x <;> first | (cases h3; done) | (cases h2; done)
  | .neg _, x, h2, h3 => by exfalso; cases x <;> first | (cases h3; done) | (cases h2; done)
  | .and _ _, x, h2, h3 => by exfalso; cases x <;> first | (cases h3; done) | (cases h2; done)
  | .or _ _, x, h2, h3 => by exfalso; cases x <;> first | (cases h3; done) | (cases h2; done)
  | .not _, x, h2, h3 => by exfalso; cases x <;> first | (cases h3; done) | (cases h2; done)
  | .cmp _ _ _, x, h2, h3 => by exfalso; cases x <;> first | (cases h3; done) | (cases h2; done)
  | .chain _ _ _ _ _, x, h2, h3 => by exfalso; cases x <;> first | (cases h3; done) | (cases h2; done)
  | .isn _, x, h2, h3 => by exfalso; cases x <;> first | (cases h3; done) | (cases h2; done)
  | .notn _, x, h2, h3 => by exfalso; cases x <;> first | (cases h3; done) | (cases h2; done)
  | .ite _ _ _, x, h2, h3 => by exfalso; cases x <;> first | (cases h3; done) | (cases h2; done)
  | .tup _, x, h2, h3 => by exfalso; cases x <;> first | (cases h3; done) | (cases h2; done)
  | .lst _ _, x, h2, h3 => by exfalso; cases x <;> first | (cases h3; done) | (cases h2; done)
  | .edct, x, h2, h3 => by exfalso; cases x <;> first | (cases h3; done) | (cases h2; done)
  | .idx _ _, x, h2, h3 => by exfalso; cases x <;> first | (cases h3; done) | (cases h2; done)
  | .get _ _, x, h2, h3 => by exfalso; cases x <;> first | (cases h3; done) | (cases h2; done)
  | .sl _ _ _, x, h2, h3 => by exfalso; cases x <;> first | (cases h3; done) | (cases h2; done)
  | .rev _, x, h2, h3 => by exfalso; cases x <;> first | (cases h3; done) | (cases h2; done)
  | .bcall _ _, x, h2, h3 => by exfalso; cases x <;> first | (cases h3; done) | (cases h2; done)
  | .sset _, x, h2, h3 => by exfalso; cases x <;> first | (cases h3; done) | (cases h2; done)
  | .upper _, x, h2, h3 => by exfalso; cases x <;> first | (cases h3; done) | (cases h2; done)
  | .call _ _, x, h2, h3 => by exfalso; cases x <;> first | (cases h3; done) | (cases h2; done)
  | .callv _ _, x, h2, h3 => by exfalso; cases x <;> first | (cases h3; done) | (cases h2; done)
  | .callk _ _ _, x, h2, h3 => by exfalso; cases x <;> first | (cases h3; done) | (cases h2; done)
  | .attr _ _, x, h2, h3 => by exfalso; cases x <;> first | (cases h3; done) | (cases h2; done)
  | .meth _ _ _, x, h2, h3 => by exfalso; cases x <;> first | (cases h3; done) | (cases h2; done)
  | .make _ _, x, h2, h3 => by exfalso; cases x <;> first | (cases h3; done) | (cases h2; done)
  | .bm _ _ _, x, h2, h3 => by exfalso; cases x <;> first | (cases h3; done) | (cases h2; done)
  | .ndct, x, h2, h3 => by exfalso; cases x <;> first | (cases h3; done) | (cases h2; done)
  | .getT _ _, x, h2, h3 => by exfalso; cases x <;> first | (cases h3; done) | (cases h2; done)
  | .tups _, x, h2, h3 => by exfalso; cases x <;> first | (cases h3; done) | (cases h2; done)
  | .star _ _, x, h2, h3 => by exfalso; cases x <;> first | (cases h3; done) | (cases h2; done)
  | .dc _ _ _ _ _ _ _ _ _, x, h2, h3 => by exfalso; cases x <;> first | (cases h3; done) | (cases h2; done)
  | .prop _ _, x, h2, h3 => by exfalso; cases x <;> first | (cases h3; done) | (cases h2; done)
  | .gin _ _, x, h2, h3 => by exfalso; cases x <;> first | (cases h3; done) | (cases h2; done)
  | .gget _ _, x, h2, h3 => by exfalso; cases x <;> first | (cases h3; done) | (cases h2; done)
  | .tupIt _, x, h2, h3 => by exfalso; cases x <;> first | (cases h3; done) | (cases h2; done)
theorem oks_set (i : Nat) (e : E) : OkS G C (.set i e) := by
  refine mkOkS (fun X W g st h => ?_) (fun _ _ _ => rfl)
  have f : ∃ y py x pos, st = .Assign [.Name y py] x pos ∧ (locB X.N X.env.scope (fun _ => true) i y && ck G X.N e X.env.scope x && (notComp x || swapB X.env.scope y py x)) = true := by
    cases st with
    | Assign ts x pos =>
      match ts, h with
      | [.Name y py], h => exact ⟨y, py, x, pos, rfl, h⟩
    | _ => cases h
  obtain ⟨y, py, x, pos, rfl, h'⟩ := f
  simp only [Bool.and_eq_true, Bool.or_eq_true] at h'
  obtain ⟨⟨h1, h2⟩, h3⟩ := h'
  obtain ⟨n1, n2, n3⟩ := fn_loc g h1
  rcases h3 with h3 | h3
  · exact PSimp (ps_set g.g.nd n1 n2 ((snd e).1 X W x g.g h2).1 (noswap h3 _ _ _) n3) set_im
  · exact set_swap g h1 e x h2 h3
theorem oks_ite (c : E) {a b : S} (ha : OkS G C a) (hb : OkS G C b) : OkS G C (.ite c a b) := by
  refine mkOkS (fun X W g st h => ?_) (fun _ _ _ => rfl)
  cases st with
  | If c' a' b' pos =>
    have h' : (ck G X.N c X.env.scope c' && ckb G X.N a X.env.scope a' && ckb G X.N b X.env.scope b') = true := h
    simp only [Bool.and_eq_true] at h'
    obtain ⟨⟨h1, h2⟩, h3⟩ := h'
    refine PSimp (ps_if ((snd c).1 X W c' g.g h1).2.1 ((ha X W g).2 _ h2) ((hb X W g).2 _ h3)) fun D σ H ⟨en, st, io, er, so, p⟩ => ?_
    refine ⟨en, st, io, er, so, (PostS.andS (Rp := RpB) er p).mono fun v H1 ⟨d, io1, st1, x, so1, er1, rd, p1⟩ => ?_⟩
    cases rd
    cases v with
    | true => rw [if_pos rfl]; exact ⟨en, st1, io1, er1, so1, p1⟩
    | false => rw [if_neg (by decide)]; exact ⟨en, st1, io1, er1, so1, p1⟩
  | _ => cases h
theorem oks_nil : OkS G C .nil := by
  refine fun X W g => ⟨fun x h => Bool.noConfusion (show false = true from h), fun xs h => ?_⟩
  cases xs with
  | nil => exact PSsimp pss_nil fun D σ H ⟨en, st, io, er, so, p⟩ => p.nxt so er
  | cons _ _ => cases h
theorem oks_seq {a r : S} (ha : OkS G C a) (hr : OkS G C r) : OkS G C (.seq a r) := by
  refine fun X W g => ⟨fun x h => Bool.noConfusion (show false = true from h), fun xs h => ?_⟩
  cases xs with
  | nil => cases h
  | cons x xs =>
    have h' : (cks G X.N a X.env.scope x && ckb G X.N r X.env.scope xs) = true := h
    rw [Bool.and_eq_true] at h'
    exact PSsimp (pss_cons ((ha X W g).1 _ h'.1) ((hr X W g).2 _ h'.2)) fun D σ H ⟨en, st, io, er, so, p⟩ => ⟨en, st, io, er, so, PostS.more p⟩
theorem oks_whl (n : Nat) (c : E) {b : S} (hb : OkS G C b) : OkS G C (.whl n c b) := by
  refine mkOkS (fun X W g st h => ?_) (fun _ _ _ => rfl)
  cases st with
  | While c' b' els pos =>
    cases els with
    | cons _ _ => cases h
    | nil =>
      have h' : (ck G X.N c X.env.scope c' && ckb G X.N b X.env.scope b') = true := h
      rw [Bool.and_eq_true] at h'
      refine PSimp (ps_while g.po ((snd c).1 X W c' g.g h'.1).2.1 ((hb X W g).2 _ h'.2)) fun D σ H ⟨en, st, io, er, so, p⟩ => ?_
      refine ⟨fun m σ H => ∃ en st io, EnvR X.K H io en σ ∧ StOk X.K H io st ∧ PostS X.K io H W D (whlRun (fun en st => tru (ev G C c en st)) (ex G C b) m en st), ⟨n, en, st, io, er, so, p⟩, ?_⟩
      rintro m σ H ⟨en, st, io, er, so, p⟩
      cases m with
      | zero => exact p.elim
      | succ m =>
        refine ⟨en, st, io, er, so, (PostS.andS (Rp := RpB) er p).mono fun v H1 ⟨d, io1, st1, x, so1, er1, rd, p1⟩ => ?_⟩
        cases rd
        cases v with
        | false => rw [if_neg (by decide)]; exact p1.nxt so1 er1
        | true =>
          rw [if_pos rfl]
          refine ⟨fun σ H => ∃ en st io, EnvR X.K H io en σ ∧ StOk X.K H io st ∧ PostS X.K io H W D (whlRun (fun en st => tru (ev G C c en st)) (ex G C b) m en st), fun σ' H' w => ⟨m, Nat.lt_succ_self m, w⟩, en, st1, io1, er1, so1, ?_⟩
          exact PostS.turn p1 fun en st σ io1 H1 x er so q => ⟨en, st, io1, er, so, q⟩
  | _ => cases h
theorem oks_loop (k : Ik) (is : List Nat) (un : Bool) (src : E) {b : S} (hb : OkS G C b) : OkS G C (.loop k is un src b) := by
  refine mkOkS (fun X W g st h => ?_) (fun _ _ _ => rfl)
  cases st with
  | For tg iter b' els pos =>
    cases els with
    | cons _ _ => cases h
    | nil =>
      have h' : (ckw G X.env.scope k (fun xs => ckl G X.N src X.env.scope xs) tg iter && ckt X.N X.env.scope (fun _ => true) is un tg && ckb G X.N b X.env.scope b') = true := h
      simp only [Bool.and_eq_true] at h'
      obtain ⟨⟨h1, h2⟩, h3⟩ := h'
      obtain ⟨hi, hn⟩ := walk_ok (snd src).2.1 (snd src).2.2.2.2.1 g.g h1
      refine PSimp (ps_for g.po g.g.calm hi (pg_ok g.g.calm g.g.nd (fun x _ => g.fn x) h2) ((hb X W g).2 _ h3) (fold_of hn _)) fun D σ H ⟨en, st, io, er, so, p⟩ => ?_
      have p' : PostS X.K io H W D (((evs G C src en st).bind fun ds st => ofL (walkOf G k ds st) st).andS en fun xs st => forRun is un (ex G C b) xs en st) := by
        have e : (((evs G C src en st).bind fun ds st => ofL (walkOf G k ds st) st).andS en fun xs st => forRun is un (ex G C b) xs en st) = ex G C (.loop k is un src b) en st := by
          show _ = (evs G C src en st).andS en _
          cases evs G C src en st with
          | ok ds st =>
            simp only [R.bind_ok, R.andS_ok]
            cases walkOf G k ds st <;> rfl
          | exc _ _ => rfl
          | bad => rfl
        rw [e]; exact p
      refine ⟨en, st, io, er, so, (PostS.andS (Rp := RpY X.K) er p').mono fun J H1 ⟨xs, io1, st1, x1, so1, er1, y, p1⟩ => ?_⟩
      let Wi : Nat → St → Hp → Prop := fun i σ Hc => ∃ en st io, Ext io1 H1 io Hc ∧ EnvR X.K Hc io en σ ∧ StOk X.K Hc io st ∧ PostS X.K io Hc W D (forRun is un (ex G C b) (xs.drop i) en st)
      refine ⟨fun i m σ Hc => m = xs.length - i ∧ i ≤ xs.length ∧ Wi i σ Hc, ⟨xs.length, rfl, Nat.zero_le _, en, st1, io1, Ext.refl _ _, er1, so1, p1⟩, ?_⟩
      rintro i m σ Hc ⟨rfl, hi, en, st2, i2, x2, er2, so2, p2⟩
      by_cases hlt : i < xs.length
      · refine .inr ⟨y.go _ _ i x2.mv hlt, Wi (i + 1), fun σ' H' w => ⟨xs.length - (i + 1), by omega, rfl, hlt, w⟩, fun v H'' yl => ?_⟩
        have hxi : xs[i]? = some xs[i] := List.getElem?_eq_getElem hlt
        obtain ⟨x3, so3, rd⟩ := y.yld _ _ st2 i _ v H'' x2.mv so2 hxi yl
        rw [List.drop_eq_getElem_cons hlt] at p2
        unfold forRun at p2
        cases es : setT is un xs[i] en with
        | none => rw [es] at p2; exact p2.elim
        | some en' =>
          rw [es] at p2
          refine ⟨en, i2, xs[i], en', er2.ext x3, rd, es, fun σ2 erA _ => ⟨en', st2, i2, erA, so3, ?_⟩⟩
          exact PostS.turn (p2.moved x3) fun en st σ io4 H4 x4 er4 so4 q => ⟨en, st, io4, (x2.trans x3).trans x4, er4, so4, q⟩
      · have e : i = xs.length := by omega
        subst e
        rw [List.drop_length] at p2
        exact .inl ⟨y.stop _ _ x2.mv, PostS.nxt (st := st2) p2 so2 er2⟩
  | _ => cases h
theorem oks_asg (is : List Nat) (e : E) : OkS G C (.asg is e) := by
  refine mkOkS (fun X W g st h => ?_) (fun _ _ _ => rfl)
  have f : ∃ ts k p x pos, st = .Assign [.Tuple ts k p] x pos ∧ (ckts X.N X.env.scope (fun _ => true) is ts && ck G X.N e X.env.scope x && notComp x && notTup x) = true := by
    cases st with
    | Assign ts x pos =>
      match ts, h with
      | [.Tuple ts k p], h => exact ⟨ts, k, p, x, pos, rfl, h⟩
    | _ => cases h
  obtain ⟨ts, k, p, x, pos, rfl, h'⟩ := f
  simp only [Bool.and_eq_true] at h'
  obtain ⟨⟨⟨h1, h2⟩, h3⟩, h4⟩ := h'
  have ht : ckt X.N X.env.scope (fun _ => true) is true (.Tuple ts k p) = true := h1
  refine PSimp (ps_asg ((snd e).1 X W x g.g h2).1 (pg_ok g.g.calm g.g.nd (fun x _ => g.fn x) ht) (show swapsWith x (some (.Tuple ts k p)) pos.line X.env = pure false from noswap h3 _ _ _) ?_) fun D σ H ⟨en, st, io, er, so, p⟩ => ?_
  · cases x <;> first | rfl | cases h4
  · refine ⟨en, st, io, er, so, (PostS.andS (Rp := RpD X.K) er p).mono fun v H1 ⟨d, io1, st1, x, so1, er1, rd, p1⟩ => ?_⟩
    cases es : setT is true d en with
    | none => simp only [es] at p1; exact p1.elim
    | some en' =>
      simp only [es] at p1
      exact ⟨en, io1, d, en', er1, rd, es, fun σ' er' _ => p1.nxt so1 er'⟩

theorem nsw_of {ts : List Expr} {k : Nat} {p : Pos} {x : Expr} {env : Env} (h : nswB env.scope ts x = true) : swappedStores [.Tuple ts k p] x env = pure none := by
  cases x <;> first | rfl | skip
  rename_i vs k2 p2
  unfold nswB at h
  unfold swappedStores
  simp only [pure_bind]
  split
  · rfl
  · rename_i h0
    split
    · rfl
    · rename_i h1
      split
      · rfl
      · rename_i h2
        simp only [Bool.or_eq_true, decide_eq_true_eq] at h
        rcases h with (h | h) | h
        · exfalso
          rw [List.any_eq_true] at h
          obtain ⟨t, ht, hn⟩ := h
          have h2' := h2
          simp only [Bool.or_eq_true, not_or, bne_iff_ne, ne_eq, Decidable.not_not] at h2'
          have h3 := List.filterMap_length_eq_length.mp h2'.1 t ht
          cases t <;> first | (cases h3; done) | skip
          rename_i y p3
          have hn' : (!(env.scope.names.lookup y == some .local)) = true := hn
          have hk : env.kindOf y = env.scope.names.lookup y := rfl
          simp only [hk] at h3
          simp at hn' h3
          exact hn' h3.1
        · exfalso
          simp only [Bool.or_eq_true, not_or, Bool.not_eq_true', Bool.not_eq_false', beq_iff_eq] at h0
          obtain ⟨⟨h3, _⟩, _⟩ := h0
          simp at h3
          omega
        · rw [if_pos h]
theorem oks_junk : OkS G C .junk := fun X W g => ⟨fun x h => ps_junk, fun xs h => pss_junk⟩
theorem oks_asgS (i j : Nat) (e : E) : OkS G C (.asgS i j e) := by
  refine mkOkS (fun X W g st h => ?_) (fun _ _ _ => rfl)
  have f : ∃ a pa b pb p1 k p x pos, st = .Assign [.Tuple [.Name a pa, .Starred (.Name b pb) p1] k p] x pos ∧ (locB X.N X.env.scope (fun _ => true) i a && locB X.N X.env.scope (fun _ => true) j b && ck G X.N e X.env.scope x && notComp x && notTup x) = true := by
    cases st with
    | Assign ts x pos =>
      match ts, h with
      | [.Tuple [.Name a pa, .Starred (.Name b pb) p1] k p], h => exact ⟨a, pa, b, pb, p1, k, p, x, pos, rfl, h⟩
    | _ => cases h
  obtain ⟨a, pa, b, pb, p1, k, p, x, pos, rfl, h'⟩ := f
  simp only [Bool.and_eq_true] at h'
  obtain ⟨⟨⟨⟨h1, h2⟩, h3⟩, h4⟩, h5⟩ := h'
  refine PSimp (ps_asg ((snd e).1 X W x g.g h3).1 (pg_star g.g.calm g.g.nd g.fn h1 h2) (show swapsWith x (some (.Tuple [.Name a pa, .Starred (.Name b pb) p1] k p)) pos.line X.env = pure false from noswap h4 _ _ _) ?_) fun D σ H ⟨en, st, io, er, so, p⟩ => ?_
  · cases x <;> first | rfl | cases h5
  · refine ⟨en, st, io, er, so, (PostS.andS (Rp := RpD X.K) er p).mono fun v H1 ⟨d, io1, st1, x, so1, er1, rd, p1⟩ => ?_⟩
    cases hl : listOf d st1 with
    | none => simp only [hl] at p1; exact p1.elim
    | some ds =>
      cases ds with
      | nil => simp only [hl] at p1; exact p1.elim
      | cons d0 ds =>
        simp only [hl] at p1
        obtain ⟨l, vs, rfl, hH, rl⟩ := listOf_at hl so1 rd
        obtain ⟨v0, vr, rfl, r0, rr⟩ := rl
        refine ⟨l, v0, vr, rfl, .of hH, fun c hc => ?_⟩
        have xx := Ext.fresh so1 hc (.lst vr)
        exact p1 _ io1 _ xx (so1.fresh hc _) (((er1.ext xx).set (Rep.ext xx _ _ r0)).set ⟨c, vr, rfl, ⟨upd_same, so1.free hc⟩, RepL.ext xx _ _ rr⟩)
theorem oks_setFld (f : Nat) (o v : E) : OkS G C (.setFld f o v) := by
  refine mkOkS (fun X W g st h => ?_) (fun _ _ _ => rfl)
  have f : ∃ o' y p x pos, st = .Assign [.Attribute o' y p] x pos ∧ (decide (nm f = y) && ck G X.N o X.env.scope o' && ck G X.N v X.env.scope x) = true := by
    cases st with
    | Assign ts x pos =>
      match ts, h with
      | [.Attribute o' y p], h => exact ⟨o', y, p, x, pos, rfl, h⟩
    | _ => cases h
  obtain ⟨o', y, p, x, pos, rfl, h'⟩ := f
  simp only [Bool.and_eq_true, decide_eq_true_eq] at h'
  obtain ⟨⟨rfl, h1⟩, h2⟩ := h'
  exact ps_setFld2 g.g.fld ((snd o).1 X W o' g.g h1).1 ((snd v).1 X W x g.g h2).1
theorem oks_augFld (f : Nat) (o v : E) : OkS G C (.augFld f o v) := by
  refine mkOkS (fun X W g st h => ?_) (fun _ _ _ => rfl)
  have f : ∃ o' y p x pos, st = .AugAssign (.Attribute o' y p) .Add x pos ∧ (decide (nm f = y) && ck G X.N o X.env.scope o' && ck G X.N v X.env.scope x) = true := by
    cases st with
    | AugAssign t op x pos =>
      match t, op, h with
      | .Attribute o' y p, .Add, h => exact ⟨o', y, p, x, pos, rfl, h⟩
    | _ => cases h
  obtain ⟨o', y, p, x, pos, rfl, h'⟩ := f
  simp only [Bool.and_eq_true, decide_eq_true_eq] at h'
  obtain ⟨⟨rfl, h1⟩, h2⟩ := h'
  exact ps_augFld2 g.g.fld ((snd o).1 X W o' g.g h1).1 ((snd v).1 X W x g.g h2).1
theorem asgT_nx : ∀ (ts : E) (ds : List D) (en : En) (st : Sto) (f : Fl) (st' : Sto), asgT G C ts ds en st = .ok f st' → ∃ en', f = .nx en'
  | .nil, [], en, st, f, st', h => by cases h; exact ⟨_, rfl⟩
  | .nil, _ :: _, en, st, f, st', h => by cases h
  | .cons a r, [], en, st, f, st', h => by cases a <;> cases h
  | .cons a r, d :: ds, en, st, f, st', h => by
    cases a <;> first | (cases h; done) | skip
    · exact asgT_nx r ds _ st f st' h
    · rename_i g a
      have h' : ((ev G C a en st).andS en fun x st => (match putFldD G.F g x d st with
        | some st' => asgT G C r ds en st'
        | none => .bad)) = .ok f st' := h
      cases q : ev G C a en st with
      | ok x st1 =>
        rw [q] at h'
        dsimp only [R.andS_ok] at h'
        cases q2 : putFldD G.F g x d st1 with
        | none => rw [q2] at h'; cases h'
        | some st2 => rw [q2] at h'; exact asgT_nx r ds en st2 f st' h'
      | exc _ _ => rw [q] at h'; cases h'
      | bad => rw [q] at h'; cases h'
theorem nxOnly {K : PySem.W.Frag} {io : Io} {H : Hp} {W : WX} {D : Ends} {r : RS} (h : ∀ f st, r = .ok f st → ∃ en, f = .nx en) (p : PostS K io H W D r) : PostS K io H W { nx := D.nx, rt := fun _ _ => False } r := by
  cases r with
  | ok f st =>
    obtain ⟨en, rfl⟩ := h f st rfl
    exact p
  | exc _ _ _ => exact p
  | bad => exact p
theorem oks_asgG (ts e : E) : OkS G C (.asgG ts e) := by
  refine mkOkS (fun X W g st h => ?_) (fun _ _ _ => rfl)
  have f : ∃ ts' k p x pos, st = .Assign [.Tuple ts' k p] x pos ∧ (cktG G X.N X.env.scope ts ts' && ck G X.N e X.env.scope x && notComp x && nswB X.env.scope ts' x) = true := by
    cases st with
    | Assign ts x pos =>
      match ts, h with
      | [.Tuple ts k p], h => exact ⟨ts, k, p, x, pos, rfl, h⟩
    | _ => cases h
  obtain ⟨ts', k, p, x, pos, rfl, h'⟩ := f
  simp only [Bool.and_eq_true] at h'
  obtain ⟨⟨⟨h1, h2⟩, h3⟩, h4⟩ := h'
  obtain ⟨q1, q2, q3, q4⟩ := pgs_G (C := C) (W := W) g.g g.fn ts ts' h1
  refine PSimp (ps_asg ((snd e).1 X W x g.g h2).1 (pg_tup g.g.calm q1 q3 q4) (show swapsWith x (some (.Tuple ts' k p)) pos.line X.env = pure false from noswap h3 _ _ _) (nsw_of h4)) fun D σ H ⟨en, st, io, er, so, p⟩ => ?_
  refine ⟨en, st, io, er, so, (PostS.andS (Rp := RpD X.K) er p).mono fun v H1 ⟨d, io1, st1, x, so1, er1, rd, p1⟩ => ?_⟩
  cases d <;> first | exact p1.elim | skip
  rename_i ds
  dsimp only at p1
  by_cases hl : ds.length = lenE ts
  · rw [if_pos hl] at p1
    obtain ⟨a, xs, rfl, hq, rl⟩ := rd
    refine ⟨a, xs, rfl, .of hq, by rw [← rl.len, hl, q2], en, st1, io1, ds, er1, so1, rl, ?_⟩
    refine nxOnly (fun f st' hf => asgT_nx ts ds en st1 f st' hf) p1
  · rw [if_neg hl] at p1; exact p1.elim
end
end Mi

set_option maxRecDepth 100000
set_option maxHeartbeats 4000000
/-! raise; try with one suite; a block run by itself -/
namespace Mi
open PySem PySem.Spec PyProof.Rows L2

/-! ### a block run by itself -/
section
variable {K : PySem.W.Frag} {H : Hp} {io io1 : Io} {d : D} {v : V}
mutual
theorem Rep.lf (i : ∀ a, a ∈ io → a ∈ io1) : ∀ (d : D) (v : V), Rep K H io1 d v → Mi.lf d = true → Rep K H io d v
  | .non, _, h, _ => h
  | .bl _, _, h, _ => h
  | .int _, _, h, _ => h
  | .str _, _, h, _ => h
  | .glo _, _, h, _ => h
  | .ty _, _, h, _ => h
  | .loc n, _, _, e => by cases e
  | .tup ds, _, ⟨a, xs, e, s, r⟩, l => ⟨a, xs, e, s, RepL.lf i ds xs r l⟩
  | .lst ds, _, ⟨a, xs, e, s, r⟩, l => ⟨a, xs, e, ⟨s.1, fun m => s.2 (i _ m)⟩, RepL.lf i ds xs r l⟩
  | .fro ds, _, ⟨a, xs, e, s, r⟩, l => ⟨a, xs, e, s.imp (fun ⟨o, q, n⟩ => ⟨o, q, fun m => n (i _ m)⟩) id, RepL.lf i ds xs r l⟩
  | .dct _ ds, _, ⟨a, xs, e, ⟨o, s, z⟩, n, r⟩, l => ⟨a, xs, e, ⟨o, s, fun m => z (i _ m)⟩, n, RepL.lf i ds xs r l⟩
  | .dtu _ ds, _, ⟨a, xs, e, ⟨o, s, z⟩, n, r⟩, l => ⟨a, xs, e, ⟨o, s, fun m => z (i _ m)⟩, n, RepL.lf i ds xs r l⟩
  | .tuq ds, _, ⟨a, xs, e, ⟨o, s, z, c⟩, r⟩, l => ⟨a, xs, e, ⟨o, s, fun m => z (i _ m), c⟩, RepL.lf i ds xs r l⟩
  | .xcp _ _ ds, _, ⟨a, xs, e, s, n, r⟩, l => ⟨a, xs, e, by
    rcases s with ⟨d, h, n, h2, n2⟩ | ⟨h, n, q⟩
    · exact .inl ⟨d, h, fun m => n (i _ m), h2, fun m => n2 (i _ m)⟩
    · exact .inr ⟨h, fun m => n (i _ m), q⟩, n, RepL.lf i ds xs r l⟩
theorem RepL.lf (i : ∀ a, a ∈ io → a ∈ io1) : ∀ (ds : List D) (xs : List V), RepL K H io1 ds xs → lfs ds = true → RepL K H io ds xs
  | [], _, h, _ => h
  | d :: ds, _, ⟨x, r, e, h1, h2⟩, l => by
    have l' : (Mi.lf d && lfs ds) = true := l
    rw [Bool.and_eq_true] at l'
    exact ⟨x, r, e, Rep.lf i d x h1 l'.1, RepL.lf i ds r h2 l'.2⟩
end
end
section
variable {K : PySem.W.Frag} {H H1 : Hp} {io io1 : Io} {st : Sto}
/-- all of the store was hidden: what is new is let go -/
theorem Ext.gone {k : Nat} (x : Ext (io.inner k) H io1 H1) (s : StOk K H io st) (hk : k = st.length) : Ext io H io H1 :=
  ⟨⟨[], by simp⟩, rfl, fun a o h n => x.keep a o h fun m => n (Io.mem_inner.mp m), fun a m n => ⟨(x.hid a (List.mem_append_right _ m) fun z => n (List.mem_of_mem_drop z)).1, n⟩, x.tups, x.frzs, fun a h1 h2 => absurd h1 h2⟩
theorem StOk.gone {k : Nat} (s : StOk K H io st) (x : Ext (io.inner k) H io1 H1) (hk : k = st.length) : StOk K H1 io st := by
  have y := Ext.gone x s hk
  have hid : ∀ a, a ∈ io → H1 a = H a := fun a m => by
    have hd : io.l.drop k = [] := by rw [hk, ← s.len]; simp
    refine (x.hid a ?_ (by show a ∉ io.l.drop k; rw [hd]; simp)).1
    rcases m with m | m
    · exact List.mem_append_left _ (by rw [hk, ← s.len, List.take_length]; exact m)
    · exact List.mem_append_right _ m
  exact ⟨s.len, s.nd, fun n a b e1 e2 => (s.ob n a b e1 e2).ext y (hid a (.inl (Io.get_mem e1))), fun a m => by
    obtain ⟨n, o, e, r⟩ := s.hs a m
    exact ⟨n, o, by rw [hid a (.inr m)]; exact e, r⟩⟩
end
section
variable {G : Gs} {C : Call}
theorem oks_iso (c : Nat) (vs : List Nat) {b : S} (hb : OkS G C b) : OkS G C (.iso c vs b) := by
  refine fun X W g => ⟨fun x h => Bool.noConfusion (show false = true from h), fun xs h => ?_⟩
  refine PSsimp ((hb X W g).2 xs h) fun D σ H ⟨en, st, io, er, so, p⟩ => ?_
  have p' : PostS X.K io H W D (match keepE (st.length - c) vs en, keepS (st.length - c) st with
    | some en0, some st0 => isoEnd c (st.length - c) st (ex G C b en0 st0)
    | _, _ => .bad) := p
  cases h1 : keepE (st.length - c) vs en with
  | none => rw [h1] at p'; exact p'.elim
  | some en0 =>
    cases h2 : keepS (st.length - c) st with
    | none => rw [h1, h2] at p'; exact p'.elim
    | some st0 =>
      rw [h1, h2] at p'
      dsimp only at p'
      refine ⟨en0, st0, io.inner (st.length - c), keepE_ok h1 er, so.inner h2, ?_⟩
      cases r : ex G C b en0 st0 with
      | bad => rw [r] at p'; exact p'
      | exc _ _ _ => rw [r] at p'; exact p'.elim
      | ok f st1 =>
        rw [r] at p'
        cases f with
        | nx _ => exact p'.elim
        | bk _ => exact p'.elim
        | ct _ => exact p'.elim
        | rt d =>
          intro v io1 H1 x s1 rd
          unfold isoEnd at p'
          dsimp only at p'
          by_cases hl : (lf d && Nat.beq c 0) = true
          · rw [if_pos hl] at p'
            rw [Bool.and_eq_true] at hl
            have hc : c = 0 := Nat.eq_of_beq_eq_true hl.2
            have hk : st.length - c = st.length := by rw [hc]; rfl
            exact p' v io H1 (Ext.gone x so hk) (so.gone x hk) (Rep.lf (fun a m => x.sub (Io.mem_inner.mpr m)) d v rd hl.1)
          · rw [if_neg hl] at p'
            have hk : st.length - c ≤ st.length := Nat.sub_le _ _
            exact p' v _ H1 (Ext.outer so x) (so.outer hk x s1) (Rep.outer x.same (by rw [so.len]; exact hk) d v rd)
/-! ### a walk over a list of the store -/
theorem oks_loopL (fl : Nat) (is : List Nat) (un : Bool) (src : E) {b : S} (hb : OkS G C b) : OkS G C (.loopL fl is un src b) := by
  refine mkOkS (fun X W g st h => ?_) (fun _ _ _ => rfl)
  cases st with
  | For tg iter b' els pos =>
    cases els with
    | cons _ _ => cases h
    | nil =>
      have h' : (ck G X.N src X.env.scope iter && notSet iter && ckt X.N X.env.scope (fun _ => true) is un tg && ckb G X.N b X.env.scope b') = true := h
      simp only [Bool.and_eq_true] at h'
      obtain ⟨⟨⟨h1, h0⟩, h2⟩, h3⟩ := h'
      refine PSimp (ps_for g.po g.g.calm (pi_list ((snd src).1 X W iter g.g h1).1) (pg_ok g.g.calm g.g.nd (fun x _ => g.fn x) h2) ((hb X W g).2 _ h3) (fold_of h0 _)) fun D σ H ⟨en, st, io, er, so, p⟩ => ?_
      refine ⟨en, st, io, er, so, (PostS.andS (Rp := RpD X.K) er p).mono fun v H1 ⟨d, io1, st1, x1, so1, er1, rd, p1⟩ => ?_⟩
      cases d <;> first | exact p1.elim | skip
      rename_i n
      obtain ⟨a, ea, rfl⟩ := rd
      have p1' : PostS X.K io1 H1 W D (liveRun n is un (ex G C b) fl 0 en st1) := p1
      have hl : ∃ xs, SqL X.K H1 a xs := by
        cases fl with
        | zero => exact p1'.elim
        | succ fl =>
          unfold liveRun at p1'
          split at p1'
          · rename_i ds hq
            obtain ⟨xs, e1, r⟩ := so1.ob n a _ ea hq
            exact ⟨xs, .of e1⟩
          · exact p1'.elim
      refine ⟨a, rfl, hl, ?_⟩
      refine ⟨fun i m σ Hc => ∃ en st io, Ext io1 H1 io Hc ∧ EnvR X.K Hc io en σ ∧ StOk X.K Hc io st ∧ PostS X.K io Hc W D (liveRun n is un (ex G C b) m i en st), ⟨fl, en, st1, io1, Ext.refl _ _, er1, so1, p1'⟩, ?_⟩
      rintro i m σ Hc ⟨en, st2, i2, x2, er2, so2, p2⟩
      cases m with
      | zero => exact p2.elim
      | succ m =>
        unfold liveRun at p2
        split at p2
        · rename_i ds hq
          obtain ⟨xs, e1, r⟩ := so2.ob n a _ (x2.at ea) hq
          have sq : SqL X.K Hc a xs := .of e1
          cases hx : ds[i]? with
          | none =>
            rw [hx] at p2
            have hlen : xs.length ≤ i := by rw [← r.len]; exact List.getElem?_eq_none_iff.mp hx
            exact .inl ⟨⟨xs, sq, hlen⟩, PostS.nxt (st := st2) p2 so2 er2⟩
          | some x =>
            rw [hx] at p2
            dsimp only at p2
            obtain ⟨v, hv, rv⟩ := r.at hx
            refine .inr ⟨⟨xs, v, sq, hv⟩, fun σ' H' => ∃ en st io, Ext io1 H1 io H' ∧ EnvR X.K H' io en σ' ∧ StOk X.K H' io st ∧ PostS X.K io H' W D (liveRun n is un (ex G C b) m (i + 1) en st), fun σ' H' w => ⟨m, Nat.lt_succ_self m, w⟩, fun u H'' y => ?_⟩
            obtain ⟨rfl, y⟩ := y
            have eu := y xs sq
            rw [hv] at eu
            cases eu
            cases es : setT is un x en with
            | none => rw [es] at p2; exact p2.elim
            | some en' =>
              rw [es] at p2
              refine ⟨en, i2, x, en', er2, rv, es, fun σ2 erA _ => ⟨en', st2, i2, erA, so2, ?_⟩⟩
              exact PostS.turn p2 fun en st σ io4 H4 x4 er4 so4 q => ⟨en, st, io4, x2.trans x4, er4, so4, q⟩
        · exact p2.elim
  | _ => cases h
/-! ### raise -/
theorem oks_raise (c : Nat) (e : E) : OkS G C (.raise c e) := by
  refine mkOkS (fun X W g st h => ?_) (fun _ _ _ => rfl)
  have f : ∃ y p1 e' p2 pos, st = .Raise (some (.Call (.Name y p1) [e'] [] p2)) none pos ∧ (decide (nm c = y) && glB X.env.scope y && (G.exc.lookup c).isSome && notStar e' && ck G X.N e X.env.scope e') = true := by
    cases st with
    | Raise x y pos =>
      match x, y, h with
      | some (.Call (.Name y p1) [e'] [] p2), none, h => exact ⟨y, p1, e', p2, pos, rfl, h⟩
    | _ => cases h
  obtain ⟨y, p1, e', p2, pos, rfl, h'⟩ := f
  simp only [Bool.and_eq_true, decide_eq_true_eq] at h'
  obtain ⟨⟨⟨⟨rfl, h1⟩, h2⟩, h3⟩, h4⟩ := h'
  obtain ⟨f, hf⟩ := Option.isSome_iff_exists.mp h2
  have T := g.g.exc c f hf
  obtain ⟨k, hr, _⟩ := g.g.lev
  obtain ⟨g1, g2⟩ := gl_of h1
  obtain ⟨n1, n2, n3⟩ := nm_of g2
  have pa : PA X [e'] (tA X.K W fun en st => (ev G C e en st).bind fun x st => .ok [x] st) := by
    have := pa_cons2 (a := e') h3 ((snd e).1 X W e' g.g h4).1 (pa_nil2 (X := X) (W := W))
    refine PAimp this fun σ H Q hw => tG.imp hw fun en st => ?_
    cases ev G C e en st <;> rfl
  refine PSimp (ps_raise g.g.calm g.g.tk (pmk_x T (hr.room.mono (Nat.le_add_left 1 k)) g1 pa n1 (star_of h3 _ _))) fun D σ H ⟨en, st, io, er, so, p⟩ => ?_
  have p' : PostS X.K io H W D ((ev G C e en st).andS en fun d st => (match G.exc.lookup c with
    | some f => .exc ⟨c, [f], [d]⟩ en st
    | none => .bad)) := p
  refine ⟨en, st, io, er, so, ?_⟩
  show Post X.K io H (fun c d H' => W c d σ H') (RpL X.K) ((ev G C e en st).bind fun x st => .ok [x] st) _
  cases r : ev G C e en st with
  | bad => rw [r] at p'; exact p'
  | exc y st1 =>
    rw [r] at p'
    exact fun c dx io1 H1 x s1 ea => p' c dx σ io1 H1 x s1 (er.ext x) ea
  | ok d st1 =>
    rw [r, R.andS_ok, hf] at p'
    intro vs io1 H1 x s1 rl
    obtain ⟨v, rfl, rd⟩ := rl.one
    refine ⟨v, rfl, fun dd hd => ?_⟩
    have xf := Ext.fresh s1 hd (.xd [(nm f, v)])
    exact p' _ _ σ io1 _ (x.trans xf) (s1.fresh hd _) ((er.ext x).ext xf) ⟨rfl, .inr ⟨dd, [v], rfl, upd_same, s1.free hd, rfl, .cons (Rep.ext xf _ _ rd) .nil⟩⟩
end
/-! ### try: .. except H as error: return error.f if isinstance(error, C) and isinstance(error, ValueError) else None -/
section
variable {X : Cx} {a : Addr} {oe : Obj} {cls : Value} {d : Option Addr} {pn : List (Addr × Obj)} {i : Nat} {n : Str} {c : V} {cv : Value} {z : Str} {e : Expr} {p1 p2 p3 : Pos}
theorem pt_isx (hz : Zc cls d oe) (hf : ∃ vs, oe.data = .fields vs) (hN : X.N[i]? = some n) (hv : Vis X.env.scope n) (hdb : (n == ("__debug__" : Str)) = false) (hcd : (n == ("__classdict__" : Str)) = false) (hg : Gl X "isinstance") (hm : X.mg "isinstance" = none)
    (he : PE (X.suite a ((a, oe) :: pn)) e (fun _ H Q => Q c H)) (hs : notStar e = true) :
    PT (X.suite a ((a, oe) :: pn)) (.Call (.Name "isinstance" p1) [.Name n p2, e] [] p3) (fun σ H Q => σ[i]? = some (some (.ref a)) ∧ rIsX X.K cls d a [.ref a, c] H fun v H' => ∃ k, v = .bl k ∧ Q k H') := by
  have hst := star_of (a := e) hs [] (X.suite a ((a, oe) :: pn)).env
  have pa : PA (X.suite a ((a, oe) :: pn)) [.Name n p2, e] _ := pa_cons (pe_var (X := X.suite a ((a, oe) :: pn)) (pos := p2) (i := i) hN hv hdb hcd) (pa_cons he pa_nil hst) rfl
  have pe := pe_callB (X := X.suite a ((a, oe) :: pn)) (p := p1) (pos := p3) (isX_s (X := X) hz hf) hg hm (by rfl) pa (by decide) (by decide) rfl (by rw [hst]; rfl)
  refine PTimp (pt_val pe) fun σ H Q h => ?_
  obtain ⟨h1, h2⟩ := h
  exact ⟨.ref a, h1, h2⟩
theorem pe_xfX (hz : Zc cls d oe) (hf : ∃ vs, oe.data = .fields vs) (hN : X.N[i]? = some n) (hv : Vis X.env.scope n) (hdb : (n == ("__debug__" : Str)) = false) (hcd : (n == ("__classdict__" : Str)) = false) {f : Str} :
    PE (X.suite a ((a, oe) :: pn)) (.Attribute (.Name n p1) f p2) (fun σ H Q => σ[i]? = some (some (.ref a)) ∧ ∃ (C dd : Addr) (fs : List (Str × V)) (v : V), cls = .ref C ∧ d = some dd ∧ H dd = some (.xd fs) ∧ XfC X.K C ∧ PySem.W.findIn X.K (.ref C) f = some none ∧ fs.lookup f = some v ∧ Q v H) := by
  refine ⟨fun pins s σ H Q I h => ?_⟩
  obtain ⟨h1, C, dd, fs, v, ec, ed, eH, T, hno, l, q⟩ := h
  exact (pe_xf (X := X) (C := C) (pn := pn) (pos := p2) T hno hz hf (pe_var (X := X.suite a ((a, oe) :: pn)) (pos := p1) (i := i) hN hv hdb hcd) rfl).run pins s σ H Q I ⟨.ref a, h1, rfl, ec, dd, fs, v, ed, eH, l, q⟩
/-- the suite's reading -/
def tSuite (K : PySem.W.Frag) (i : Nat) (c1 c2 : Value) (f : Str) (a : Addr) (cls : Value) (d : Option Addr) : TS := fun D σ H => (i < σ.length → σ[i]? = some (some (.ref a))) ∧ ∃ (C dd : Addr) (fs : List (Str × V)) (b1 : Bool), cls = .ref C ∧ d = some dd ∧ H dd = some (.xd fs) ∧ ExcC K C ∧
  PySem.W.kitOne K (.ref C) c1 = some b1 ∧ (b1 = true → PySem.W.kitOne K (.ref C) c2 = some true ∧ XfC K C ∧ PySem.W.findIn K (.ref C) f = some none ∧ ∃ v, fs.lookup f = some v ∧ D.rt v H) ∧ (b1 = false → D.rt .non H)
end
theorem Good.tr {G : Gs} {C : Call} {X : Cx} {W W' : WX} (g : Good G C X W) {pn : List (Addr × Obj)} {xe : Value → Shared → Prop} (tk : Takes (X.tr pn xe) W') : Good G C (X.tr pn xe) W' where
  calm := g.calm
  nd := g.nd
  kind := g.kind
  lev := g.lev
  fld := g.fld
  no := g.no
  glo := g.glo
  tk := tk
  sysm := g.sysm
  itr := g.itr
  exc := g.exc
  exh := g.exh
  dic := g.dic
section
variable {G : Gs} {C : Call}
theorem oks_tryL (i h h1 f : Nat) {b : S} (hb : OkS G C b) : OkS G C (.tryL i h b h1 f) := by
  refine mkOkS (fun X W g st hck => ?_) (fun _ _ _ => rfl)
  have sh : ∃ b' y np n su hp pos, st = .Try b' [.ExceptHandler (some (.Name y np)) (some n) su hp] [] [] pos ∧
      (decide (nm h = y) && glB X.env.scope y && (G.exh.lookup h).isSome && locOnly X.N X.env.scope i n && plainNm n && glB X.env.scope "isinstance" && decide (("isinstance" : Str) ∈ G.no) &&
      glB X.env.scope (nm h1) && (G.exh.lookup h1).isSome && glB X.env.scope "ValueError" && decide (("ValueError" : Str) ∈ G.no) && ckSu n (nm h1) (nm f) su && ckb G X.N b X.env.scope b') = true := by
    cases st with
    | Try b' hs o fi pos =>
      match hs, o, fi, hck with
      | [.ExceptHandler (some (.Name y np)) (some n) su hp], [], [], hck => exact ⟨b', y, np, n, su, hp, pos, rfl, hck⟩
    | _ => cases hck
  obtain ⟨b', y, np, n, su, hp, pos, rfl, h'⟩ := sh
  simp only [Bool.and_eq_true, decide_eq_true_eq] at h'
  obtain ⟨⟨⟨⟨⟨⟨⟨⟨⟨⟨⟨⟨rfl, q2⟩, q3⟩, q4⟩, q5⟩, q11⟩, q12⟩, q14⟩, q15⟩, q17⟩, q18⟩, q19⟩, q20⟩ := h'
  obtain ⟨t, xa, xb, pi, pr, rfl, u1, u2, u3⟩ := ckSu_of q19
  obtain ⟨ta, tb, pb, rfl, u4, u5⟩ := ckAnd2_of u1
  obtain ⟨pz1, pn1, py1, c1, rfl⟩ := ckIsi_of u4
  obtain ⟨pz2, pn2, py2, c2, rfl⟩ := ckIsi_of u5
  obtain ⟨pn3, pg, rfl⟩ := ckXf_of u2
  obtain ⟨cj, cp, rfl⟩ := ckNone_of u3
  obtain ⟨s0, hs0⟩ := Option.isSome_iff_exists.mp q3
  obtain ⟨s1, hs1⟩ := Option.isSome_iff_exists.mp q15
  have T0 := g.g.exh h s0 hs0
  have T1 := g.g.exh h1 s1 hs1
  obtain ⟨a1, a2⟩ := gl_of q2
  obtain ⟨a3, a4, a5⟩ := nm_of a2
  obtain ⟨k1, k2⟩ := gl_of q14
  obtain ⟨k3, k4, k5⟩ := nm_of k2
  obtain ⟨v1, v2⟩ := gl_of q17
  obtain ⟨v3, v4, v5⟩ := nm_of v2
  obtain ⟨n1', n2', n3'⟩ := nm_of q5
  unfold locOnly at q4
  rw [Bool.and_eq_true, decide_eq_true_eq] at q4
  obtain ⟨l1, l2⟩ := q4
  have l3 : X.env.scope.names.lookup n = some .local := by
    split at l2
    · assumption
    · cases l2
  have hsu : ∀ (a : Addr) (oe : Obj) (cls : Value) (d : Option Addr) (pn : List (Addr × Obj)), Zc cls d oe → (∃ vs, oe.data = .fields vs) → PSs (X.suite a ((a, oe) :: pn)) [.Return (some (.IfExp (.BoolOp .And [.Call (.Name "isinstance" pz1) [.Name n pn1, .Name (nm h1) py1] [] c1, .Call (.Name "isinstance" pz2) [.Name n pn2, .Name "ValueError" py2] [] c2] pb) (.Attribute (.Name n pn3) (nm f) pg) (.Constant .none cj cp) pi)) pr]
      (tSuite X.K i (.ref (He.ga X.K (nm h1))) (.type "ValueError") (nm f) a cls d) := fun a oe cls d pn hz hf => by
    have t1 := pt_isx (X := X) (a := a) (pn := pn) (p1 := pz1) (p2 := pn1) (p3 := c1) (c := .ref (He.ga X.K (nm h1))) hz hf l1 (.inl l3) n1' n2' (gl_of q11).1 (g.g.no _ q12) (pe_glob (X := X.suite a ((a, oe) :: pn)) (pos := py1) (v := .ref (He.ga X.K (nm h1))) k1 T1.glo rfl k3) rfl
    have t2 := pt_isx (X := X) (a := a) (pn := pn) (p1 := pz2) (p2 := pn2) (p3 := c2) (c := .ty "ValueError") hz hf l1 (.inl l3) n1' n2' (gl_of q11).1 (g.g.no _ q12) (pe_bltn (X := X.suite a ((a, oe) :: pn)) (pos := py2) (v := .ty "ValueError") v1 (g.g.no _ q18) rfl rfl v5 v3) rfl
    have t3 := pe_xfX (X := X) (a := a) (pn := pn) (p1 := pn3) (p2 := pg) (f := nm f) hz hf l1 (.inl l3) n1' n2'
    refine ⟨fun pins s σ H D I w => (pss_one (ps_ret (pos := pr) (pe_ifExp (pos := pi) (pw_and (pos := pb) t1 (pw_and1 t2)).pt t3 (pe_non (X := X.suite a ((a, oe) :: pn)))))).run pins s σ H D I ?_⟩
    obtain ⟨w0, Cc, dd, fs, b1, rfl, rfl, eH, ex, e1, y1, y2⟩ := w
    have w1 := w0 (by rw [I.len]; exact (List.getElem?_eq_some_iff.mp l1).1)
    refine ⟨w1, Cc, _, _, b1, dd, fs, rfl, rfl, eH, ex, rfl, fun u r => r, e1, b1, rfl, ?_⟩
    cases b1 with
    | true =>
      obtain ⟨e2, xf, hno, v, l, q⟩ := y1 rfl
      rw [if_pos rfl]
      refine ⟨w1, Cc, _, _, true, dd, fs, rfl, rfl, eH, ex, rfl, fun u r => r, e2, true, rfl, ?_⟩
      dsimp only
      rw [if_pos rfl]
      exact ⟨w1, Cc, dd, fs, v, rfl, rfl, eH, xf, hno, l, q⟩
    | false =>
      rw [if_neg (by decide)]
      show (if false = true then _ else _)
      rw [if_neg (by decide)]
      exact y2 rfl
  refine PSimp (ps_try_as (X := X) (tb := fun W' => tS X.K W' (ex G C b)) (ts := tSuite X.K i (.ref (He.ga X.K (nm h1))) (.type "ValueError") (nm f)) (Wout := W) g.stk g.frm g.g.nd l1 l3 ⟨a1, a3, .inl T0.glo⟩ g.g.tk
    (fun W' pn xe tk po => (hb (X.tr pn xe) W' ⟨g.g.tr tk, g.fn, po, g.stk, g.frm⟩).2 b' q20) hsu) fun D σ H ⟨en, st, io, er, so, p⟩ => ?_
  have p' : PostS X.K io H W D (match ex G C b en st with
    | .exc x en' st' => suiteL G h h1 f x en' st'
    | r => r) := p
  refine ⟨en, st, io, er, so, ?_⟩
  cases r : ex G C b en st with
  | bad => rw [r] at p'; exact p'
  | ok fl st1 => rw [r] at p'; cases fl <;> exact p'
  | exc x en1 st1 =>
    rw [r] at p'
    intro c dx σ1 io1 H1 x1 so1 er1 ea
    have p2 : PostS X.K io H W D (suiteL G h h1 f x en1 st1) := p'
    unfold suiteL at p2
    split at p2
    · rename_i g0 s0' s1' hg0 hs0' hs1'
      rw [hs0] at hs0'; cases hs0'
      rw [hs1] at hs1'; cases hs1'
      split at p2
      · rename_i g1 dv hfs hvs
        split at p2
        · rename_i hgg
          subst hgg
          obtain ⟨ec, ea⟩ := ea
          rcases ea with ⟨z, _⟩ | ⟨dd, xs, ed, eH, nio, hlen, rl⟩
          · rw [hfs] at z; cases z
          · rw [hvs] at rl
            obtain ⟨v, rfl, rd⟩ := rl.one
            rw [hfs] at eH
            obtain ⟨sb1, sb2⟩ := T0.sub _ _ hg0
            obtain ⟨sc1, sc2⟩ := T1.sub _ _ hg0
            have XC := g.g.exc _ _ hg0
            refine ⟨s0.contains x.cls, by rw [ec]; exact sb1, fun hc a ha => ?_, fun hc => ?_⟩
            · rw [if_pos hc] at p2
              refine ⟨?_, He.ga X.K (nm x.cls), dd, _, s1.contains x.cls, ec, ed, eH, XC.is, sc2, fun hc1 => ?_, fun hc1 => ?_⟩
              · intro hi
                exact List.getElem?_set_self (by simpa using hi)
              · rw [if_pos hc1] at p2
                split at p2
                · rename_i hgf
                  subst hgf
                  obtain ⟨fI, qual, slf, pp, T2, _⟩ := XC.init
                  exact ⟨XC.ve, XC.xf, T2.noat, v, by simp [List.lookup], p2 v io1 H1 x1 so1 rd⟩
                · exact p2.elim
              · rw [if_neg (by rw [hc1]; decide)] at p2
                exact p2 .non io1 H1 x1 so1 rfl
            · rw [if_neg (by rw [hc]; decide)] at p2
              exact p2 c dx σ1 io1 H1 x1 so1 er1 ⟨ec, .inr ⟨dd, [v], ed, by rw [hfs]; exact eH, nio, by rw [hfs]; rfl, by rw [hvs]; exact .cons rd .nil⟩⟩
        · exact p2.elim
      · exact p2.elim
    · exact p2.elim
end
end Mi

set_option maxRecDepth 100000
set_option maxHeartbeats 4000000
/-! try: .. except H as error: x = error.f if isinstance(error, C) and isinstance(error, ValueError) else None -/
namespace Mi
open PySem PySem.Spec PyProof.Rows L2
theorem EnvR.over {K : PySem.W.Frag} {H : Hp} {io : Io} {en : En} {σ : L2.St} (h : EnvR K H io en σ) (i : Nat) (x : Option V) : EnvR K H io (en.set i none) (σ.set i x) := by
  refine ⟨by simp [h.1], fun j e q => ?_⟩
  by_cases hj : j = i
  · subst hj
    by_cases hl : j < en.length
    · rw [List.getElem?_set_self hl] at q; cases q
    · rw [List.getElem?_eq_none (by simpa using hl)] at q; cases q
  · rw [List.getElem?_set_ne (Ne.symm hj)] at q
    rw [List.getElem?_set_ne (Ne.symm hj)]
    exact h.2 j e q
def tSuiteA (K : PySem.W.Frag) (i j : Nat) (c1 c2 : Value) (f : Str) (a : Addr) (cls : Value) (d : Option Addr) : TS := fun D σ H => tSuite K i c1 c2 f a cls d { D with rt := fun v H' => D.nx (σ.set j (some v)) H' } σ H
section
variable {G : Gs} {C : Call}
theorem oks_tryA (i j h h1 f : Nat) {b : S} (hb : OkS G C b) : OkS G C (.tryA i j h b h1 f) := by
  refine mkOkS (fun X W g st hck => ?_) (fun _ _ _ => rfl)
  have sh : ∃ b' y np n su hp pos, st = .Try b' [.ExceptHandler (some (.Name y np)) (some n) su hp] [] [] pos ∧
      (decide (nm h = y) && glB X.env.scope y && (G.exh.lookup h).isSome && locOnly X.N X.env.scope i n && plainNm n && glB X.env.scope "isinstance" && decide (("isinstance" : Str) ∈ G.no) &&
      glB X.env.scope (nm h1) && (G.exh.lookup h1).isSome && glB X.env.scope "ValueError" && decide (("ValueError" : Str) ∈ G.no) && ckSuA X.N X.env.scope j n (nm h1) (nm f) su && ckb G X.N b X.env.scope b') = true := by
    cases st with
    | Try b' hs o fi pos =>
      match hs, o, fi, hck with
      | [.ExceptHandler (some (.Name y np)) (some n) su hp], [], [], hck => exact ⟨b', y, np, n, su, hp, pos, rfl, hck⟩
    | _ => cases hck
  obtain ⟨b', y, np, n, su, hp, pos, rfl, h'⟩ := sh
  simp only [Bool.and_eq_true, decide_eq_true_eq] at h'
  obtain ⟨⟨⟨⟨⟨⟨⟨⟨⟨⟨⟨⟨rfl, q2⟩, q3⟩, q4⟩, q5⟩, q11⟩, q12⟩, q14⟩, q15⟩, q17⟩, q18⟩, q19⟩, q20⟩ := h'
  obtain ⟨z, pz, ee, pr, rfl, u0, u9⟩ := ckSuA_of q19
  obtain ⟨t, xa, xb, pi, rfl, u1, u2, u3⟩ := ckSuE_of u9
  obtain ⟨ta, tb, pb, rfl, u4, u5⟩ := ckAnd2_of u1
  obtain ⟨pz1, pn1, py1, c1, rfl⟩ := ckIsi_of u4
  obtain ⟨pz2, pn2, py2, c2, rfl⟩ := ckIsi_of u5
  obtain ⟨pn3, pg, rfl⟩ := ckXf_of u2
  obtain ⟨cj, cp, rfl⟩ := ckNone_of u3
  obtain ⟨s0, hs0⟩ := Option.isSome_iff_exists.mp q3
  obtain ⟨s1, hs1⟩ := Option.isSome_iff_exists.mp q15
  have T0 := g.g.exh h s0 hs0
  have T1 := g.g.exh h1 s1 hs1
  obtain ⟨a1, a2⟩ := gl_of q2
  obtain ⟨a3, a4, a5⟩ := nm_of a2
  obtain ⟨k1, k2⟩ := gl_of q14
  obtain ⟨k3, k4, k5⟩ := nm_of k2
  obtain ⟨v1, v2⟩ := gl_of q17
  obtain ⟨v3, v4, v5⟩ := nm_of v2
  obtain ⟨n1', n2', n3'⟩ := nm_of q5
  obtain ⟨m1, m2, m3⟩ := fn_loc g u0
  unfold locOnly at q4
  rw [Bool.and_eq_true, decide_eq_true_eq] at q4
  obtain ⟨l1, l2⟩ := q4
  have l3 : X.env.scope.names.lookup n = some .local := by
    split at l2
    · assumption
    · cases l2
  have hsu : ∀ (a : Addr) (oe : Obj) (cls : Value) (d : Option Addr) (pn : List (Addr × Obj)), Zc cls d oe → (∃ vs, oe.data = .fields vs) → PSs (X.suite a ((a, oe) :: pn)) [.Assign [.Name z pz] (.IfExp (.BoolOp .And [.Call (.Name "isinstance" pz1) [.Name n pn1, .Name (nm h1) py1] [] c1, .Call (.Name "isinstance" pz2) [.Name n pn2, .Name "ValueError" py2] [] c2] pb) (.Attribute (.Name n pn3) (nm f) pg) (.Constant .none cj cp) pi) pr]
      (tSuiteA X.K i j (.ref (He.ga X.K (nm h1))) (.type "ValueError") (nm f) a cls d) := fun a oe cls d pn hz hf => by
    have t1 := pt_isx (X := X) (a := a) (pn := pn) (p1 := pz1) (p2 := pn1) (p3 := c1) (c := .ref (He.ga X.K (nm h1))) hz hf l1 (.inl l3) n1' n2' (gl_of q11).1 (g.g.no _ q12) (pe_glob (X := X.suite a ((a, oe) :: pn)) (pos := py1) (v := .ref (He.ga X.K (nm h1))) k1 T1.glo rfl k3) rfl
    have t2 := pt_isx (X := X) (a := a) (pn := pn) (p1 := pz2) (p2 := pn2) (p3 := c2) (c := .ty "ValueError") hz hf l1 (.inl l3) n1' n2' (gl_of q11).1 (g.g.no _ q12) (pe_bltn (X := X.suite a ((a, oe) :: pn)) (pos := py2) (v := .ty "ValueError") v1 (g.g.no _ q18) rfl rfl v5 v3) rfl
    have t3 := pe_xfX (X := X) (a := a) (pn := pn) (p1 := pn3) (p2 := pg) (f := nm f) hz hf l1 (.inl l3) n1' n2'
    refine ⟨fun pins s σ H D I w => (pss_one (ps_set (X := X.suite a ((a, oe) :: pn)) (pos := pr) (pos' := pz) (i := j) g.g.nd m1 m2 (pe_ifExp (pos := pi) (pw_and (pos := pb) t1 (pw_and1 t2)).pt t3 (pe_non (X := X.suite a ((a, oe) :: pn)))) rfl m3)).run pins s σ H D I ?_⟩
    obtain ⟨w0, Cc, dd, fs, b1, rfl, rfl, eH, ex, e1, y1, y2⟩ := w
    have w1 := w0 (by rw [I.len]; exact (List.getElem?_eq_some_iff.mp l1).1)
    refine ⟨w1, Cc, _, _, b1, dd, fs, rfl, rfl, eH, ex, rfl, fun u r => r, e1, b1, rfl, ?_⟩
    cases b1 with
    | true =>
      obtain ⟨e2, xf, hno, v, l, q⟩ := y1 rfl
      rw [if_pos rfl]
      refine ⟨w1, Cc, _, _, true, dd, fs, rfl, rfl, eH, ex, rfl, fun u r => r, e2, true, rfl, ?_⟩
      dsimp only
      rw [if_pos rfl]
      exact ⟨w1, Cc, dd, fs, v, rfl, rfl, eH, xf, hno, l, q⟩
    | false =>
      rw [if_neg (by decide)]
      show (if false = true then _ else _)
      rw [if_neg (by decide)]
      exact y2 rfl
  refine PSimp (ps_try_as (X := X) (tb := fun W' => tS X.K W' (ex G C b)) (ts := tSuiteA X.K i j (.ref (He.ga X.K (nm h1))) (.type "ValueError") (nm f)) (Wout := W) g.stk g.frm g.g.nd l1 l3 ⟨a1, a3, .inl T0.glo⟩ g.g.tk
    (fun W' pn xe tk po => (hb (X.tr pn xe) W' ⟨g.g.tr tk, g.fn, po, g.stk, g.frm⟩).2 b' q20) hsu) fun D σ H ⟨en, st, io, er, so, p⟩ => ?_
  have p' : PostS X.K io H W D (match ex G C b en st with
    | .exc x en' st' => suiteA G i j h h1 f x en' st'
    | r => r) := p
  refine ⟨en, st, io, er, so, ?_⟩
  cases r : ex G C b en st with
  | bad => rw [r] at p'; exact p'
  | ok fl st1 => rw [r] at p'; cases fl <;> exact p'
  | exc x en1 st1 =>
    rw [r] at p'
    intro c dx σ1 io1 H1 x1 so1 er1 ea
    have p2 : PostS X.K io H W D (suiteA G i j h h1 f x en1 st1) := p'
    unfold suiteA suiteL at p2
    cases hg0 : G.exc.lookup x.cls with
    | none => rw [hg0] at p2; exact p2.elim
    | some g0 =>
      rw [hg0, hs0, hs1] at p2
      dsimp only at p2
      cases hfs : x.fs with
      | nil => rw [hfs] at p2; exact p2.elim
      | cons g1 gr =>
        cases gr with
        | cons _ _ => rw [hfs] at p2; exact p2.elim
        | nil =>
          cases hvs : x.vs with
          | nil => rw [hfs, hvs] at p2; exact p2.elim
          | cons dv dr =>
            cases dr with
            | cons _ _ => rw [hfs, hvs] at p2; exact p2.elim
            | nil =>
              rw [hfs, hvs] at p2
              dsimp only at p2
              by_cases hgg : g1 = g0
              · rw [if_pos hgg] at p2
                subst hgg
                obtain ⟨ec, ea⟩ := ea
                rcases ea with ⟨z, _⟩ | ⟨dd, xs, ed, eH, nio, hlen, rl⟩
                · rw [hfs] at z; cases z
                · rw [hvs] at rl
                  obtain ⟨v, rfl, rd⟩ := rl.one
                  rw [hfs] at eH
                  obtain ⟨sb1, sb2⟩ := T0.sub _ _ hg0
                  obtain ⟨sc1, sc2⟩ := T1.sub _ _ hg0
                  have XC := g.g.exc _ _ hg0
                  refine ⟨s0.contains x.cls, by rw [ec]; exact sb1, fun hc a ha => ?_, fun hc => ?_⟩
                  · rw [if_pos hc] at p2
                    refine ⟨?_, He.ga X.K (nm x.cls), dd, _, s1.contains x.cls, ec, ed, eH, XC.is, sc2, fun hc1 => ?_, fun hc1 => ?_⟩
                    · intro hi
                      exact List.getElem?_set_self (by simpa using hi)
                    · rw [if_pos hc1] at p2
                      by_cases hgf : g1 = f
                      · rw [if_pos hgf] at p2
                        subst hgf
                        obtain ⟨fI, qual, slf, pp, T2, _⟩ := XC.init
                        exact ⟨XC.ve, XC.xf, T2.noat, v, by simp [List.lookup], p2 _ io1 H1 x1 so1 (((er1.over i _).set rd).clear i)⟩
                      · rw [if_neg hgf] at p2; exact p2.elim
                    · rw [if_neg (by rw [hc1]; decide)] at p2
                      exact p2 _ io1 H1 x1 so1 (((er1.over i _).set (d := .non) (v := .non) rfl).clear i)
                  · rw [if_neg (by rw [hc]; decide)] at p2
                    exact p2 c dx σ1 io1 H1 x1 so1 er1 ⟨ec, .inr ⟨dd, [v], ed, by rw [hfs]; exact eH, nio, by rw [hfs]; rfl, by rw [hvs]; exact .cons rd .nil⟩⟩
              · rw [if_neg hgg] at p2; exact p2.elim
end
end Mi

set_option maxRecDepth 100000
set_option maxHeartbeats 4000000
namespace Mi
open PySem PySem.Spec L2

/-! ### o[i] = v -/
def rSt (K : PySem.W.Frag) : TSet := fun o i v H Q => ∃ d e z st io st', StOk K H io st ∧ Rep K H io d o ∧ Rep K H io e i ∧ Rep K H io z v ∧ storeD d e z st = some st' ∧ ∀ H', Ext io H io H' → StOk K H' io st' → Q H'
theorem any_key (k : KeyD) : ∀ (ks : List KeyD) (xs : List V), ks.length = xs.length → (((ks.map keyOf).zip xs).any fun kv => decide (kv.1 = keyOf k)) = (ks.any fun j => decide (j = k))
  | [], _, _ => rfl
  | a :: ks, [], h => by simp at h
  | a :: ks, x :: xs, h => by
    rw [List.map_cons, List.zip_cons_cons, List.any_cons, List.any_cons, any_key k ks xs (by simpa using h)]
    congr 1
    by_cases e : a = k
    · rw [e]; simp
    · rw [decide_eq_false e, decide_eq_false (fun z => e (keyOf_inj z))]
theorem put_map {K : PySem.W.Frag} {H : Hp} {io : Io} {z : D} {v : V} (rz : Rep K H io z v) (k : KeyD) : ∀ (ks : List KeyD) (vs : List D) (xs : List V), ks.length = xs.length → RepL K H io vs xs →
    ∃ ys, ((ks.map keyOf).zip xs).map (fun kv => if kv.1 = keyOf k then (kv.1, v) else kv) = (ks.map keyOf).zip ys ∧ ks.length = ys.length ∧ RepL K H io ((ks.zip vs).map fun p => if p.1 = k then z else p.2) ys
  | [], vs, xs, h, r => ⟨[], by simp, rfl, by simp [RepL]⟩
  | a :: ks, vs, [], h, r => by simp at h
  | a :: ks, [], x :: xs, h, r => by cases r
  | a :: ks, d :: vs, x :: xs, h, r => by
    obtain ⟨x', xs', e, r1, r2⟩ := r
    cases e
    obtain ⟨ys, e1, e2, e3⟩ := put_map rz k ks vs xs (by simpa using h) r2
    by_cases hk : a = k
    · refine ⟨v :: ys, ?_, by simp [e2], ?_⟩
      · rw [List.map_cons, List.zip_cons_cons, List.map_cons, e1, List.zip_cons_cons, if_pos (by rw [hk])]
      · rw [List.zip_cons_cons, List.map_cons, if_pos hk]
        exact .cons rz e3
    · refine ⟨x :: ys, ?_, by simp [e2], ?_⟩
      · rw [List.map_cons, List.zip_cons_cons, List.map_cons, e1, List.zip_cons_cons, if_neg (fun q => hk (keyOf_inj q))]
      · rw [List.zip_cons_cons, List.map_cons, if_neg hk]
        exact .cons r1 e3
theorem set_store {X : Cx} (hu : X.A.units + 64 < cLine) : PSet X (rSt X.K) := by
  intro pins s σ H o i v ov iv u Q I ro ri rv h
  obtain ⟨d, e, z, st, io, st', so, rd, re, rz, hs, q⟩ := h
  cases d <;> first | (simp [storeD] at hs; done) | skip
  rename_i n
  obtain ⟨a, ea, rfl⟩ := rd
  cases hb : st[n]? with
  | none => simp [storeD, hb] at hs
  | some b =>
    cases b with
    | ins _ _ _ => simp [storeD, hb] at hs
    | frd _ _ => simp [storeD, hb] at hs
    | frl _ => simp [storeD, hb] at hs
    | lst ds =>
      obtain ⟨xs, hx, rl⟩ := so.ob n a _ ea hb
      cases e <;> first | (simp [storeD, hb] at hs; done) | skip
      rename_i k
      cases hj : ixN ds.length k with
      | none => simp [storeD, hb, hj] at hs
      | some j =>
        simp only [storeD, hb, hj, Option.some.injEq] at hs
        subst hs
        cases re
        refine set_list pins s σ H _ _ v ov iv u Q I ro ri rv ⟨a, xs, k, j, rfl, rfl, hx, by rw [← rl.len]; exact hj, ?_⟩
        have n2 : ∀ f u, H a ≠ some (.frz f u) := fun f u z => by rw [hx] at z; cases z
        have xx := Ext.write so (Io.get_mem ea) (HO.lst (xs.set j v)) n2
        exact q _ xx (so.write ea n2 ⟨_, upd_same, RepL.ext xx _ _ (rl.set j rz)⟩)
    | dct ks vs =>
      obtain ⟨xs, hx, hl, rl⟩ := so.ob n a _ ea hb
      cases hk : keyD e with
      | none => simp [storeD, hb, hk] at hs
      | some k =>
        simp only [storeD, hb, hk] at hs
        split at hs
        · rename_i hz
          simp only [Option.some.injEq] at hs
          subst hs
          have ek := keyD_at hk re
          subst ek
          refine set_dict (by omega) pins s σ H _ _ v ov iv u Q I ro ri rv ⟨a, _, rfl, DPut.k hx (by rw [dict_len hl, ← sz_eq]; exact hz), ?_⟩
          have n2 : ∀ f u, H a ≠ some (.frz f u) := fun f u z => by rw [hx] at z; cases z
          have xx := fun o => Ext.write (o := o) so (Io.get_mem ea) n2
          refine q _ (xx _) (so.write ea n2 ?_)
          unfold putK putD
          rw [any_key k ks xs hl]
          by_cases hany : (ks.any fun j => decide (j = k)) = true
          · rw [if_pos hany, if_pos hany]
            obtain ⟨ys, e1, e2, e3⟩ := put_map rz k ks vs xs hl rl
            rw [e1]
            exact ⟨ys, upd_same, e2, RepL.ext (xx _) _ _ e3⟩
          · rw [if_neg hany, if_neg hany]
            refine ⟨xs ++ [v], ?_, by simp [hl], RepL.ext (xx _) _ _ (rl.append (.cons rz .nil))⟩
            rw [List.map_append, List.zip_append (by simpa using hl)]
            exact upd_same
        · cases hs
section
variable {G : Gs} {C : Call}
theorem asg_sub {o i : Expr} {pos : Pos} {env : Env} (h : notSlice i = true) (v : Value) : assign (.Subscript o i pos) env v = (do
      let ov ← holding [v] (eval o env)
      let iv ← holding [v, ov] (eval i env)
      standAt pos
      holding [v, ov, iv] (setItem ov iv v)
      release [v, ov, iv] []) := by
  cases i <;> first | rfl | cases h
theorem oks_setItem (a i v : E) : OkS G C (.setItem a i v) := by
  refine mkOkS (fun X W g st h => ?_) (fun _ _ _ => rfl)
  have f : ∃ a' i' p x pos, st = .Assign [.Subscript a' i' p] x pos ∧ (ck G X.N v X.env.scope x && ck G X.N a X.env.scope a' && ck G X.N i X.env.scope i' && notSlice i' && notComp x) = true := by
    cases st with
    | Assign ts x pos =>
      match ts, h with
      | [.Subscript a' i' p], h => exact ⟨a', i', p, x, pos, rfl, h⟩
    | _ => cases h
  obtain ⟨a', i', p, x, pos, rfl, h'⟩ := f
  simp only [Bool.and_eq_true] at h'
  obtain ⟨⟨⟨⟨h1, h2⟩, h3⟩, h4⟩, h5⟩ := h'
  refine PSimp (ps_asg ((snd v).1 X W x g.g h1).1 (pg_sub ((snd a).1 X W a' g.g h2).1 ((snd i).1 X W i' g.g h3).1 (set_store g.g.hu) (asg_sub h4)) (show swapsWith x (some (.Subscript a' i' p)) pos.line X.env = pure false from noswap h5 _ _ _) ?_) fun D σ H ⟨en, st, io, er, so, p⟩ => ?_
  · cases x <;> rfl
  · refine ⟨en, st, io, er, so, (PostS.andS (Rp := RpD X.K) er p).mono fun w H1 ⟨z, io1, st1, x1, so1, er1, rz, p1⟩ => ?_⟩
    refine ⟨en, st1, io1, er1, so1, (PostS.andS (Rp := RpD X.K) er1 p1).mono fun o H2 ⟨d, io2, st2, x2, so2, er2, rd, p2⟩ => ?_⟩
    refine ⟨en, st2, io2, er2, so2, (PostS.andS (Rp := RpD X.K) er2 p2).mono fun j H3 ⟨e, io3, st3, x3, so3, er3, re, p3⟩ => ?_⟩
    cases hs : storeD d e z st3 with
    | none => simp only [hs] at p3; exact p3.elim
    | some st' =>
      simp only [hs] at p3
      exact ⟨d, e, z, st3, io3, st', so3, Rep.ext x3 _ _ rd, re, Rep.ext (x2.trans x3) _ _ rz, hs, fun H' xx so' => p3 _ io3 H' xx so' (er3.ext xx)⟩
/-! ### name op= e -/
theorem aug_ok (X : Cx) (o : B2) : o = .add ∨ o = .sub → PIp X (op2 o) (r2 X.K (aug2 o)) := by
  intro ho pins s σ H x y v u Q I rx ry h
  obtain ⟨d, e, st, io, so, rd, re, p⟩ := h
  rcases ho with rfl | rfl
  · cases d <;> cases e <;> first | exact p.elim | skip
    cases rd; cases re
    exact ip_add pins s σ H _ _ v u Q I rx ry ⟨_, _, rfl, rfl, p.int so⟩
  · cases d <;> cases e <;> first | exact p.elim | skip
    cases rd; cases re
    exact ip_sub pins s σ H _ _ v u Q I rx ry ⟨_, _, rfl, rfl, p.int so⟩
theorem aug_nox (o : B2) (x y : D) (st : Sto) : (o = .add ∨ o = .sub) ∨ aug2 o x y st = .bad := by
  cases o <;> first | exact .inl (.inl rfl) | exact .inl (.inr rfl) | exact .inr rfl
theorem aug_shut (o : B2) (x y : D) (st : Sto) : shut (aug2 o x y st) = aug2 o x y st := by
  unfold aug2
  split <;> rfl
/-! ### a, b = x, y -/
theorem lo_of {N : List Str} {sc : Scope} {i : Nat} {x : Str} (h : locOnly N sc i x = true) : N[i]? = some x ∧ sc.names.lookup x = some .local := by
  unfold locOnly at h
  simp only [Bool.and_eq_true, decide_eq_true_eq] at h
  refine ⟨h.1, ?_⟩
  have h2 := h.2
  split at h2
  · assumption
  · cases h2
theorem swap2_of {env : Env} {a b : Str} {pa pb : Pos} {x y : Expr} {kt k2 : Nat} {pt pt2 : Pos} (hk : env.scope.kind = .function) (ha : env.scope.names.lookup a = some .local) (hb : env.scope.names.lookup b = some .local) (hab : a ≠ b) (hl : pb.line = pa.line) (hs : swapStB [x, y] = true) :
    swappedStores [.Tuple [.Name a pa, .Name b pb] kt pt] (.Tuple [x, y] k2 pt2) env = pure (some [a, b]) := by
  have ka : env.kindOf a = some .local := ha
  have kb : env.kindOf b = some .local := hb
  have kk : env.blockKind = .function := by unfold Env.blockKind; rw [hk]; rfl
  unfold swapStB at hs
  simp only [Bool.and_eq_true, Bool.not_eq_true'] at hs
  obtain ⟨⟨h1, h2⟩, h3⟩ := hs
  unfold swappedStores
  simp only [kk, h1, h2, h3, ka, kb, Expr.pos, hl, List.filterMap_cons, List.filterMap_nil, List.length_cons, List.length_nil, List.head?_cons]
  simp [hl, Ne.symm hab, List.eraseDups_cons, Expr.pos]
  intro hh
  exfalso
  simp only [List.any_cons, List.any_nil, Bool.or_false, Bool.or_eq_false_iff] at h1
  rcases hh with hh | hh
  · exact Bool.noConfusion ((h1.1).symm.trans hh)
  · exact Bool.noConfusion ((h1.2).symm.trans hh)
theorem swap3_of {env : Env} {a b c : Str} {pa pb pc : Pos} {x y z : Expr} {kt k2 : Nat} {pt pt2 : Pos} (hk : env.scope.kind = .function) (ha : env.scope.names.lookup a = some .local) (hb : env.scope.names.lookup b = some .local) (hc : env.scope.names.lookup c = some .local)
    (hab : a ≠ b) (hac : a ≠ c) (hbc : b ≠ c) (hl : pb.line = pa.line) (hl2 : pc.line = pa.line) (hs : swapStB [x, y, z] = true) :
    swappedStores [.Tuple [.Name a pa, .Name b pb, .Name c pc] kt pt] (.Tuple [x, y, z] k2 pt2) env = pure (some [a, b, c]) := by
  have ka : env.kindOf a = some .local := ha
  have kb : env.kindOf b = some .local := hb
  have kc : env.kindOf c = some .local := hc
  have kk : env.blockKind = .function := by unfold Env.blockKind; rw [hk]; rfl
  unfold swapStB at hs
  simp only [Bool.and_eq_true, Bool.not_eq_true'] at hs
  obtain ⟨⟨h1, h2⟩, h3⟩ := hs
  unfold swappedStores
  simp only [kk, h1, h2, h3, ka, kb, kc, Expr.pos, hl, hl2, List.filterMap_cons, List.filterMap_nil, List.length_cons, List.length_nil, List.head?_cons]
  simp [hl, hl2, Ne.symm hab, Ne.symm hac, Ne.symm hbc, List.eraseDups_cons, Expr.pos]
  intro hh
  exfalso
  simp only [List.any_cons, List.any_nil, Bool.or_false, Bool.or_eq_false_iff] at h1
  rcases hh with hh | hh | hh
  · exact Bool.noConfusion ((h1.1).symm.trans hh)
  · exact Bool.noConfusion ((h1.2.1).symm.trans hh)
  · exact Bool.noConfusion ((h1.2.2).symm.trans hh)
theorem setAll_two {i j : Nat} {ds : List D} {en en' : En} (h : setAll [i, j] ds en = some en') : ∃ d e, ds = [d, e] ∧ en' = (en.set i (some d)).set j (some e) := by
  match ds, h with
  | [d, e], h => cases h; exact ⟨d, e, rfl, rfl⟩
theorem setAll_three {i j l : Nat} {ds : List D} {en en' : En} (h : setAll [i, j, l] ds en = some en') : ∃ d e f, ds = [d, e, f] ∧ en' = ((en.set i (some d)).set j (some e)).set l (some f) := by
  match ds, h with
  | [d, e, f], h => cases h; exact ⟨d, e, f, rfl, rfl⟩
theorem oks_par (is : List Nat) (es : E) : OkS G C (.par is es) := by
  refine mkOkS (fun X W g st h => ?_) (fun _ _ _ => rfl)
  have f : (∃ i j a pa b pb kt p x y k2 p2 pos, is = [i, j] ∧ st = .Assign [.Tuple [.Name a pa, .Name b pb] kt p] (.Tuple [x, y] k2 p2) pos ∧
      (locOnly X.N X.env.scope i a && locOnly X.N X.env.scope j b && decide (i ≠ j) && decide (a ≠ b) && decide (pb.line = pa.line) && swapStB [x, y] && ckl G X.N es X.env.scope [x, y]) = true) ∨
      (∃ i j l a pa b pb c pc kt p x y z k2 p2 pos, is = [i, j, l] ∧ st = .Assign [.Tuple [.Name a pa, .Name b pb, .Name c pc] kt p] (.Tuple [x, y, z] k2 p2) pos ∧
      (locOnly X.N X.env.scope i a && locOnly X.N X.env.scope j b && locOnly X.N X.env.scope l c && decide (i ≠ j) && decide (i ≠ l) && decide (j ≠ l) &&
      decide (a ≠ b) && decide (a ≠ c) && decide (b ≠ c) && decide (pb.line = pa.line) && decide (pc.line = pa.line) && swapStB [x, y, z] && ckl G X.N es X.env.scope [x, y, z]) = true) := by
    cases st with
    | Assign ts v pos =>
      match is, ts, v, h with
      | [i, j], [.Tuple [.Name a pa, .Name b pb] kt p], .Tuple [x, y] k2 p2, h => exact .inl ⟨i, j, a, pa, b, pb, kt, p, x, y, k2, p2, pos, rfl, rfl, h⟩
      | [i, j, l], [.Tuple [.Name a pa, .Name b pb, .Name c pc] kt p], .Tuple [x, y, z] k2 p2, h => exact .inr ⟨i, j, l, a, pa, b, pb, c, pc, kt, p, x, y, z, k2, p2, pos, rfl, rfl, h⟩
    | _ =>
      exfalso
      match is, h with
      | [], h => cases h
      | [_], h => cases h
      | [_, _], h => cases h
      | [_, _, _], h => cases h
      | _ :: _ :: _ :: _ :: _, h => cases h
  rcases f with ⟨i, j, a, pa, b, pb, kt, p, x, y, k2, p2, pos, rfl, rfl, h'⟩ | ⟨i, j, l, a, pa, b, pb, c, pc, kt, p, x, y, z, k2, p2, pos, rfl, rfl, h'⟩
  · simp only [Bool.and_eq_true, decide_eq_true_eq] at h'
    obtain ⟨⟨⟨⟨⟨⟨h1, h2⟩, h3⟩, h4⟩, h5⟩, h6⟩, h7⟩ := h'
    obtain ⟨a1, a2⟩ := lo_of h1
    obtain ⟨b1, b2⟩ := lo_of h2
    refine PSimp (ps_par g.g.calm g.g.nd a1 b1 h3 a2 b2 ((snd es).2.1 X W _ g.g h7).1 (swap2_of g.g.kind a2 b2 h4 h5 h6)) fun D σ H ⟨en, st, io, er, so, p⟩ => ?_
    refine ⟨en, st, io, er, so, (PostS.andS (Rp := RpL X.K) er p).mono fun v H1 ⟨ds, io1, st1, x, so1, er1, rd, p1⟩ => ?_⟩
    cases hs : setAll [i, j] ds en with
    | none => simp only [hs] at p1; exact p1.elim
    | some en' =>
      simp only [hs] at p1
      obtain ⟨d, e, rfl, rfl⟩ := setAll_two hs
      obtain ⟨v1, v2, rfl, r1, r2⟩ := rd.two
      exact ⟨v1, v2, rfl, p1.nxt so1 ((er1.set r1).set r2)⟩
  · simp only [Bool.and_eq_true, decide_eq_true_eq] at h'
    obtain ⟨⟨⟨⟨⟨⟨⟨⟨⟨⟨⟨⟨h1, h2⟩, h3⟩, h4⟩, h5⟩, h6⟩, h7⟩, h8⟩, h9⟩, h10⟩, h11⟩, h12⟩, h13⟩ := h'
    obtain ⟨a1, a2⟩ := lo_of h1
    obtain ⟨b1, b2⟩ := lo_of h2
    obtain ⟨c1, c2⟩ := lo_of h3
    refine PSimp (ps_par3 g.g.calm g.g.nd a1 b1 c1 h4 h5 h6 a2 b2 c2 ((snd es).2.1 X W _ g.g h13).1 (swap3_of g.g.kind a2 b2 c2 h7 h8 h9 h10 h11 h12)) fun D σ H ⟨en, st, io, er, so, p⟩ => ?_
    refine ⟨en, st, io, er, so, (PostS.andS (Rp := RpL X.K) er p).mono fun v H1 ⟨ds, io1, st1, x, so1, er1, rd, p1⟩ => ?_⟩
    cases hs : setAll [i, j, l] ds en with
    | none => simp only [hs] at p1; exact p1.elim
    | some en' =>
      simp only [hs] at p1
      obtain ⟨d, e, f, rfl, rfl⟩ := setAll_three hs
      obtain ⟨v1, r, rfl, r1, r2⟩ := rd
      obtain ⟨v2, v3, rfl, r2, r3⟩ := RepL.two r2
      exact ⟨v1, v2, v3, rfl, p1.nxt so1 (((er1.set r1).set r2).set r3)⟩
end
end Mi

set_option maxRecDepth 100000
set_option maxHeartbeats 4000000
namespace Mi
open PySem PySem.Spec L2

section
variable {G : Gs} {C : Call}
theorem oks_aug (i : Nat) (o : B2) (e : E) : OkS G C (.aug i o e) := by
  refine mkOkS (fun X W g st h => ?_) (fun _ _ _ => rfl)
  have f : ∃ y py x pos, st = .AugAssign (.Name y py) (op2 o) x pos ∧ locB X.N X.env.scope (fun _ => true) i y = true ∧ ck G X.N e X.env.scope x = true ∧ augB o = true := by
    cases st with
    | AugAssign t o' x pos =>
      cases t with
      | Name y py =>
        have h' : (locB X.N X.env.scope (fun _ => true) i y && decide (o' = op2 o) && ck G X.N e X.env.scope x && augB o) = true := h
        simp only [Bool.and_eq_true, decide_eq_true_eq] at h'
        obtain ⟨⟨⟨h1, rfl⟩, h3⟩, h4⟩ := h'
        exact ⟨y, py, x, pos, rfl, h1, h3, h4⟩
      | _ => cases h
    | _ => cases h
  obtain ⟨y, py, x, pos, rfl, h1, h2, h3⟩ := f
  obtain ⟨n1, n2, n3⟩ := fn_loc g h1
  have ho : o = .add ∨ o = .sub := by cases o <;> first | exact .inl rfl | exact .inr rfl | cases h3
  · refine PSimp (ps_aug g.g.nd n1 n2 ((snd e).1 X W x g.g h2).1 (aug_ok X o ho) n3) fun D σ H ⟨en, st, io, er, so, p⟩ => ?_
    have p' : PostS X.K io H W D (match en[i]? with
      | some (some x) => (ev G C e en st).andS en fun y st => (aug2 o x y st).andS en fun z st => .ok (.nx (en.set i (some z))) st
      | _ => .bad) := p
    cases hx : en[i]? with
    | none => rw [hx] at p'; exact p'.elim
    | some w =>
      cases w with
      | none => rw [hx] at p'; exact p'.elim
      | some d =>
        simp only [hx] at p'
        obtain ⟨v, e1, r⟩ := er.2 _ _ hx
        refine ⟨v, e1, en, st, io, er, so, (PostS.andS (Rp := RpD X.K) er p').mono fun u H1 ⟨d2, io1, st1, x1, so1, er1, rd, p1⟩ => ?_⟩
        refine ⟨d, d2, st1, io1, so1, Rep.ext x1 _ _ r, rd, ?_⟩
        have p2 := PostS.andS (Rp := RpD X.K) er1 p1
        rw [← aug_shut] at p2
        exact p2.shut.mono fun z H2 ⟨d3, io2, st2, x2, so2, er2, rz, p3⟩ => p3.nxt so2 (er2.set rz)
theorem oks (s : S) : OkS G C s := by
  induction s with
  | nil => exact oks_nil
  | seq a r ha hr => exact oks_seq ha hr
  | pass => exact oks_pass
  | expr e => exact oks_expr e
  | set i e => exact oks_set i e
  | aug i o e => exact oks_aug i o e
  | asg is e => exact oks_asg is e
  | par is es => exact oks_par is es
  | setItem a i v => exact oks_setItem a i v
  | ite c a b ha hb => exact oks_ite c ha hb
  | whl n c b hb => exact oks_whl n c hb
  | loop k is un src b hb => exact oks_loop k is un src hb
  | ret e => exact oks_ret e
  | retN => exact oks_retN
  | brk => exact oks_brk
  | cont => exact oks_cont
  | junk => exact oks_junk
  | asgS i j e => exact oks_asgS i j e
  | setFld f o v => exact oks_setFld f o v
  | augFld f o v => exact oks_augFld f o v
  | asgG ts e => exact oks_asgG ts e
  | raise c e => exact oks_raise c e
  | loopL n is un src b hb => exact oks_loopL n is un src hb
  | tryL i h b h1 f hb => exact oks_tryL i h h1 f hb
  | tryA i j h b h1 f hb => exact oks_tryA i j h h1 f hb
  | iso c vs b hb => exact oks_iso c vs hb
end
end Mi

set_option maxRecDepth 100000
set_option maxHeartbeats 4000000
/-! what the head tells of properties, own iterators, own exceptions -/
namespace Mi
open PySem PySem.Spec PyProof.Rows L2
theorem ba2 {a b : Bool} (h : (a && b) = true) : a = true ∧ b = true := Bool.and_eq_true_iff.mp h

/-! ### a def at an address -/
def fnWA (K : PySem.W.Frag) (a : Addr) : He.FnW := match K.lookup a with
  | some ⟨_, _, .func fd, _⟩ => some (fd.name, fd.qualname, fd.params, fd.body, fd.scope, fd.globals, fd.closure, fd.builtins)
  | _ => none
def okA (K : PySem.W.Frag) (d : He.DefD) (a : Addr) : Bool := PySem.W.keepIn K (.ref a) && (match K.lookup a with
  | some ⟨_, _, .func fd, _⟩ => PySem.W.codeIn K fd.code d.qual && (He.dflB K fd.defaults (d.dvs K) && He.kwdB K fd.kwdefaults (d.kws K))
  | _ => false)
theorem funDA {K : PySem.W.Frag} {d : He.DefD} {a : Addr} (e : fnWA K a = d.val) (c : okA K d a = true) : ∃ fd, FunD K d.name d.qual d.params d.body d.scope (d.dvs K) (d.kws K) a fd := by
  obtain ⟨kp, c2⟩ := ba2 c
  unfold fnWA at e
  cases q : K.lookup a with
  | none =>
    rw [q] at c2
    cases c2
  | some o =>
    obtain ⟨oc, od, dt, osl⟩ := o
    rw [q] at c2 e
    cases dt with
    | func fd =>
      obtain ⟨n1, n2, n3, n4, n5, n6, n7, n8, n9, n10, n11, n12, n13, n14, n15⟩ := fd
      have e2 : (some (n1, n2, n3, n4, n5, n6, n7, n15) : He.FnW) = some (d.name, d.qual, d.params, .stmts d.body, d.scope, mainGlobals, [], builtinsNs) := e
      simp only [Option.some.injEq, Prod.mk.injEq] at e2
      obtain ⟨h1, h2, h3, h4, h5, h6, h7, h8⟩ := e2
      subst h1 h2 h3 h4 h5 h6 h7 h8
      have c3 : (PySem.W.codeIn K n13 d.qual && (He.dflB K n8 (d.dvs K) && He.kwdB K n9 (d.kws K))) = true := c2
      obtain ⟨k1, k2⟩ := ba2 c3
      obtain ⟨k3, k4⟩ := ba2 k2
      exact ⟨_, ⟨oc, od, n8, n9, n10, n11, n12, n13, n14, osl, rfl, q, k1, He.dflB_ok k3, He.kwdB_ok k4⟩, kp⟩
    | _ => cases c2

/-! ### properties -/
def prpB (K : PySem.W.Frag) (C : Addr) (f : Str) : Bool := He.eqO (PySem.W.findIn K (.ref C) f) (some (some (.ref (He.ma K C f)))) && (He.eqO (PySem.W.specialIn K (.ref (He.ma K C f)) "__get__") (some (some (.builtin "property.__get__"))) && (decide (PySem.W.takesIn K (.ref (He.ma K C f)) = some true) &&
  (match PySem.W.recIn K (He.ma K C f) "property" with
    | some (.ref _ :: _) => true
    | _ => false)))
theorem prpB_ok {K : PySem.W.Frag} {C : Addr} {f : Str} (h : prpB K C f = true) : PropOf K C f (He.ma K C f) (pgA K C f) := by
  obtain ⟨h1, h⟩ := ba2 h
  obtain ⟨h2, h⟩ := ba2 h
  obtain ⟨h3, h4⟩ := ba2 h
  refine ⟨He.eqO_ok h1, He.eqO_ok h2, of_decide_eq_true h3, ?_⟩
  unfold pgA
  split at h4
  · rename_i g r e
    rw [e]
    exact ⟨r, rfl⟩
  · cases h4

def ckScope (N ps : List Str) (sc : Scope) : Bool := (match sc.kind with | .function => true | _ => false) && !sc.isCoroutine && !sc.isGenerator && decide N.Nodup && decide (N.take ps.length = ps) &&
  (ps.all fun x => match sc.names.lookup x with
    | some .local => true
    | some .cell => true
    | _ => false) && (sc.names.all fun y => match y.2 with
    | .free => false
    | _ => true)
theorem scope_of {N ps : List Str} {sc : Scope} (h : ckScope N ps sc = true) : FnScope N ps sc := by
  unfold ckScope at h
  simp only [Bool.and_eq_true, decide_eq_true_eq, Bool.not_eq_true', List.all_eq_true] at h
  obtain ⟨⟨⟨⟨⟨⟨h1, h2⟩, h3⟩, h4⟩, h5⟩, h6⟩, h7⟩ := h
  refine ⟨?_, h2, h3, h4, h5, fun x hx => ?_, fun y hy e => ?_⟩
  · split at h1
    · assumption
    · cases h1
  · have q := h6 x hx
    split at q
    · exact .inl (by assumption)
    · exact .inr (by assumption)
    · cases q
  · have q := h7 y hy
    rw [e] at q; cases q
/-! ### own iterators -/
def itBody (slf f : Str) : List Stmt → Bool
  | [.Return (some (.Call (.Name z _) [e] [] _)) _] => decide (z = "iter") && ckXf slf f e
  | _ => false
theorem itBody_of {slf f : Str} {b : List Stmt} (h : itBody slf f b = true) : ∃ p1 p2 p3 p4 p5, b = [.Return (some (.Call (.Name "iter" p1) [.Attribute (.Name slf p2) f p3] [] p4)) p5] := by
  unfold itBody at h
  split at h
  · obtain ⟨h1, h2⟩ := ba2 h
    obtain ⟨p1, p2, rfl⟩ := ckXf_of h2
    rw [of_decide_eq_true h1]
    exact ⟨_, _, _, _, _, rfl⟩
  · cases h
/-- a class's `__iter__` -/
structure Itx where
  c : Nat
  f : Nat
  st : Stmt
def Itx.dD (t : Itx) : He.DefD := ⟨(nm t.c, some "__iter__"), "__iter__", nm t.c ++ ("." : Str) ++ ("__iter__" : Str), defArgs t.st, defBody t.st, defScope t.st, [], []⟩
def ckItx (t : Itx) : Bool := match defArgs t.st with
  | ⟨[], [a], none, [], [], none, []⟩ => itBody a.arg (nm t.f) (defBody t.st) && ((defScope t.st).names.lookup ("iter" : Str) == some .globalImplicit) && ckScope [a.arg] [a.arg] (defScope t.st) && plainNm a.arg && decide (t.f < 1104)
  | _ => false
def faItx (t : Itx) : List He.Fa := [.cls (nm t.c), .noat (nm t.c) (nm t.f), .meth (nm t.c) "__iter__", .free "iter"]
theorem itx_ok {P : Program} {w : World} {K : PySem.W.Frag} {mg : Str → Option Value} {base : Heap} {t : Itx} (hc : ckItx t = true) (hfa : ∀ f ∈ faItx t, f.ok K = true) (hmg : mg "iter" = none)
    (hd : ∃ fd, FunD K t.dD.name t.dD.qual t.dD.params t.dD.body t.dD.scope (t.dD.dvs K) (t.dD.kws K) (He.fAd K t.dD.at_) fd) : ItrG P w K mg base t.c t.f := by
  unfold ckItx at hc
  split at hc
  · rename_i a he
    simp only [Bool.and_eq_true, decide_eq_true_eq, beq_iff_eq] at hc
    obtain ⟨⟨⟨⟨c1, c2⟩, c3⟩, c4⟩, c5⟩ := hc
    obtain ⟨p1, p2, p3, p4, p5, hb⟩ := itBody_of c1
    obtain ⟨fd, F⟩ := hd
    obtain ⟨oc, od, dV, kV, doc, pm, an, cdv, ct, osl, e, lk, hcd, hdv, hkw⟩ := F.ex
    subst e
    have hdn : dV = .none := by
      rcases hdv with ⟨_, z⟩ | ⟨z, _⟩
      · exact z
      · exact absurd rfl z
    have M := He.meth_ok (hfa (.meth (nm t.c) "__iter__") (by simp [faItx]))
    have N := nm_of c4
    exact itrG_of (N := [a.arg]) (as := [a]) c5 M.at_ M.fn (He.cls_ok (hfa (.cls (nm t.c)) (by simp [faItx]))) (He.noat_ok (hfa (.noat (nm t.c) (nm t.f)) (by simp [faItx]))) hmg lk hcd (scope_of c3) he hdn rfl rfl N.1 N.2.1 c2 hb
  · cases hc
/-! ### own exceptions -/
def xclsB (K : PySem.W.Frag) (C : Addr) : Bool := match K.lookup C with
  | some ⟨.type "type", _, .cls cd, sl⟩ => (match cd.mro, sl.toList with
    | .ref C' :: bm, [_, _, _, _, some (.builtin n), _] => decide (C' = C) && (decide (n = "ValueError.__new__") && (!cd.hasDel && (cd.hasDict && (PySem.HandSPX.refsVE bm && decide (PySem.W.alongIn K "__init__" bm = some (some (.builtin "ValueError.__init__")))))))
    | _, _ => false)
  | _ => false
theorem xclsB_ok {K : PySem.W.Frag} {C : Addr} (q : xclsB K C = true) : ∃ nm q N bs bm sn sub ab col dd k0 k1 k2 k3 k5, K.lookup C = some (excClassObj nm q C N bs bm true sn sub ab col dd k0 k1 k2 k3 k5 "ValueError.__new__") ∧ PySem.HandSPX.refsVE bm = true ∧ PySem.W.alongIn K "__init__" bm = some (some (.builtin "ValueError.__init__")) := by
  unfold xclsB at q
  split at q
  · rename_i dd cd sl ho
    split at q
    · rename_i C' bm k0 k1 k2 k3 n k5 hm hs
      simp only [Bool.and_eq_true, decide_eq_true_eq, Bool.not_eq_true'] at q
      obtain ⟨rfl, rfl, hdel, hdct, ht, hal⟩ := q
      obtain ⟨nm, bs, mro, ns, qn, hd, sn, sub, ab, col, del⟩ := cd
      dsimp only at hm hdel hdct
      subst hm hdel hdct
      have hsl : sl = #[k0, k1, k2, k3, some (.builtin "ValueError.__new__"), k5] := by
        obtain ⟨l⟩ := sl
        simp only at hs
        rw [hs]
      subst hsl
      exact ⟨nm, qn, ns, bs, bm, sn, sub, ab, col, dd, k0, k1, k2, k3, k5, ho, ht, hal⟩
    · cases q
  · cases q
abbrev XfnW : Type := Option (Str × Str × Arguments × FuncBody × Scope × Addr × Addr)
def xfnW (K : PySem.W.Frag) (a : Addr) : XfnW := match K.lookup a with
  | some ⟨_, _, .func fd, _⟩ => some (fd.name, fd.qualname, fd.params, fd.body, fd.scope, fd.globals, fd.builtins)
  | _ => none
def fileB (K : PySem.W.Frag) (pf : Str) (a : Addr) : Bool := match K.lookup a with
  | some ⟨_, _, .fields vs, _⟩ => (match (vs[2]? : Option Value) with
    | some (.str file _) => pf == file
    | _ => false)
  | _ => false
def cellB (K : PySem.W.Frag) (C cc : Addr) : Bool := match K.lookup cc with
  | some ⟨_, _, .cell (some (.ref D)), _⟩ => decide (D = C)
  | _ => false
def xfnB (K : PySem.W.Frag) (pf : Str) (C a : Addr) : Bool := match K.lookup a with
  | some ⟨_, _, .func fd, _⟩ => PySem.W.codeIn K fd.code fd.qualname && ((match fd.defaults with
    | .none => true
    | _ => false) && ((match fd.code with
    | .ref cda => fileB K pf cda
    | _ => false) && (match fd.closure with
    | [(n, cc)] => decide (n = "__class__") && cellB K C cc
    | _ => false)))
  | _ => false
def xsup0 : Expr → Bool
  | .Call (.Name z _) [] [] _ => decide (z = "super")
  | _ => false
def xsup (p : Str) : Expr → Bool
  | .Call (.Attribute b m p3) [a] [] p5 => xsup0 b && (decide (m = "__init__") && (ckNm p a && (p3.endLine == p5.line)))
  | _ => false
def xbody (slf p fld : Str) : List Stmt → Bool
  | [.Expr e _, .Assign [t] v _] => xsup p e && (ckXf slf fld t && ckNm p v)
  | _ => false
theorem xbody_of {slf p fld : Str} {b : List Stmt} (h : xbody slf p fld b = true) : ∃ p1 p2 p3 p4 p5 p6 p7 p8 p9 p10, b = [.Expr (.Call (.Attribute (.Call (.Name "super" p1) [] [] p2) "__init__" p3) [.Name p p4] [] p5) p6, .Assign [.Attribute (.Name slf p7) fld p8] (.Name p p9) p10] ∧ (p3.endLine == p5.line) = true := by
  unfold xbody at h
  split at h
  · obtain ⟨h1, h⟩ := ba2 h
    obtain ⟨h2, h3⟩ := ba2 h
    obtain ⟨p7, p8, rfl⟩ := ckXf_of h2
    obtain ⟨p9, rfl⟩ := ckNm_of h3
    unfold xsup at h1
    split at h1
    · obtain ⟨g1, h1⟩ := ba2 h1
      obtain ⟨g2, h1⟩ := ba2 h1
      obtain ⟨g3, g4⟩ := ba2 h1
      obtain ⟨p4, rfl⟩ := ckNm_of g3
      unfold xsup0 at g1
      split at g1
      · rw [of_decide_eq_true g1, of_decide_eq_true g2]
        exact ⟨_, _, _, _, _, _, _, _, _, _, rfl, g4⟩
      · cases g1
    · cases h1
  · cases h
def xscope (slf p : Str) (sc : Scope) : Bool := (sc.names.lookup ("super" : Str) == some .globalImplicit) && ((sc.names.lookup ("__class__" : Str) == some .free) && ((sc.names.lookup slf == some .local) && ((sc.names.lookup p == some .local) && ((sc.names.all fun y => match y.2 with
    | .cell => false
    | _ => true) && (!sc.isCoroutine && (!sc.isGenerator && (match sc.kind with
    | .function => true
    | _ => false)))))))
/-- an own exception: its class, its field, its `__init__` -/
structure Xcx where
  c : Nat
  f : Nat
  st : Stmt
def ckXcx (t : Xcx) : Bool := match defArgs t.st with
  | ⟨[], [a1, a2], none, [], [], none, []⟩ => xbody a1.arg a2.arg (nm t.f) (defBody t.st) && (xscope a1.arg a2.arg (defScope t.st) && (plainNm a1.arg && (plainNm a2.arg && (decide (a1.arg ≠ a2.arg) && decide (t.f < 1104)))))
  | _ => false
def Xcx.qual (t : Xcx) : Str := nm t.c ++ ("." : Str) ++ ("__init__" : Str)
def Xcx.val (t : Xcx) : XfnW := some ("__init__", t.qual, defArgs t.st, .stmts (defBody t.st), defScope t.st, mainGlobals, builtinsNs)
def isXB (K : PySem.W.Frag) (D : Addr) : Bool := He.eqO (PySem.W.findIn K (.ref D) "__class__") (some (some (.builtin "object.__class__"))) && (He.eqO (PySem.W.specialIn K (.builtin "object.__class__") "__get__") (some (some (.builtin "getset_descriptor.__get__"))) && (decide (PySem.W.takesIn K (.builtin "object.__class__") = some true) && decide (PySem.W.mroIn K D (.type "object") = some true)))
def xcxB (K : PySem.W.Frag) (pf : Str) (t : Xcx) : Bool := let C := He.ga K (nm t.c); let a := He.ma K C "__init__"
  xclsB K C && (xfnB K pf C a && (xfB K C && (isXB K C && (He.eqO (PySem.W.nsIn K mainGlobals (nm t.c)) (some (some (.ref C))) && (He.eqO (PySem.W.findIn K (.ref C) "__setattr__") (some (some (.builtin "object.__setattr__"))) && (He.eqO (PySem.W.findIn K (.ref C) (nm t.f)) (some none) && (decide (PySem.W.subIn K (.ref C) (.type "ValueError") = some true) && (He.eqO (PySem.W.nsIn K cStatics "thirdparty.any") (some none) &&
  (He.eqO (PySem.W.nsIn K mainGlobals "super") (some none) && (He.eqO (PySem.W.findIn K (.ref C) "__init__") (some (some (.ref a))) && (decide (PySem.W.typeIn K (.ref a) = some (.type "function")) && (decide (PySem.W.typeIn K (.ref C) = some (.type "type")) && (PySem.W.keepIn K (.ref C) && decide (PySem.W.kitOne K (.ref C) (.type "ValueError") = some true))))))))))))))
theorem xcx_ok {P : Program} {K : PySem.W.Frag} {mg : Str → Option Value} {h : Heap} {pf : Str} {t : Xcx} (X : K.In h) (N : h.Ns mainGlobals mg) (hck : ckXcx t = true) (hb : xcxB K pf t = true) (hw : xfnW K (He.ma K (He.ga K (nm t.c)) "__init__") = t.val) (hpf : (P.main.file : Str) = pf)
    (hs : (P.main.scope.names.lookup ("super" : Str)).isSome = false) : XcC P K mg t.c t.f := by
  unfold xcxB at hb
  dsimp only at hb
  obtain ⟨b1, hb⟩ := ba2 hb
  obtain ⟨b2, hb⟩ := ba2 hb
  obtain ⟨b3, hb⟩ := ba2 hb
  obtain ⟨b4, hb⟩ := ba2 hb
  obtain ⟨b5, hb⟩ := ba2 hb
  obtain ⟨b6, hb⟩ := ba2 hb
  obtain ⟨b7, hb⟩ := ba2 hb
  obtain ⟨b8, hb⟩ := ba2 hb
  obtain ⟨b9, hb⟩ := ba2 hb
  obtain ⟨b10, hb⟩ := ba2 hb
  obtain ⟨b11, hb⟩ := ba2 hb
  obtain ⟨b12, hb⟩ := ba2 hb
  obtain ⟨b13, hb⟩ := ba2 hb
  obtain ⟨b14, b15⟩ := ba2 hb
  have xf := xfB_ok b3
  unfold ckXcx at hck
  split at hck
  · rename_i a1 a2 he
    obtain ⟨c1, hck⟩ := ba2 hck
    obtain ⟨c2, hck⟩ := ba2 hck
    obtain ⟨c3, hck⟩ := ba2 hck
    obtain ⟨c4, hck⟩ := ba2 hck
    obtain ⟨c5, c6⟩ := ba2 hck
    obtain ⟨p1, p2, p3, p4, p5, p6, p7, p8, p9, p10, ebody, hln⟩ := xbody_of c1
    unfold xscope at c2
    obtain ⟨s1, c2⟩ := ba2 c2
    obtain ⟨s2, c2⟩ := ba2 c2
    obtain ⟨s3, c2⟩ := ba2 c2
    obtain ⟨s4, c2⟩ := ba2 c2
    obtain ⟨s5, c2⟩ := ba2 c2
    obtain ⟨s6, c2⟩ := ba2 c2
    obtain ⟨s7, s8⟩ := ba2 c2
    have n1 := nm_of c3
    have n2 := nm_of c4
    unfold xfnB at b2
    unfold xfnW at hw
    split at b2
    · rename_i oc od fd osl lk
      rw [lk] at hw
      dsimp only at hw
      unfold Xcx.val at hw
      obtain ⟨m1, m2, m3, m4, m5, m6, m7, m8, m9, m10, m11, m12, m13, m14, m15⟩ := fd
      simp only [Option.some.injEq, Prod.mk.injEq] at hw
      obtain ⟨h1, h2, h3, h4, h5, h6, h7⟩ := hw
      subst h1 h2 h3 h4 h5 h6 h7
      dsimp only at b2
      obtain ⟨d1, b2⟩ := ba2 b2
      obtain ⟨d2, b2⟩ := ba2 b2
      obtain ⟨d3, d4⟩ := ba2 b2
      obtain rfl : m8 = .none := by
        cases m8 <;> first | rfl | cases d2
      obtain ⟨cda, rfl⟩ : ∃ cda, m13 = .ref cda := by
        cases m13 <;> first | exact ⟨_, rfl⟩ | cases d3
      obtain ⟨n, cc, rfl⟩ : ∃ n cc, m7 = [(n, cc)] := by
        match m7, d4 with
        | [(n, cc)], _ => exact ⟨n, cc, rfl⟩
      dsimp only at d3 d4
      obtain ⟨d4, d5⟩ := ba2 d4
      have en := of_decide_eq_true d4
      subst en
      unfold fileB at d3
      split at d3
      · rename_i ccl cdd vs ccs hcode
        split at d3
        · rename_i file tf hvs
          unfold cellB at d5
          split at d5
          · rename_i cl cld D csl hcell
            have eD := of_decide_eq_true d5
            subst eD
            obtain ⟨i1, i2⟩ := ba2 b4
            obtain ⟨i2, i3⟩ := ba2 i2
            obtain ⟨i3, i4⟩ := ba2 i3
            refine ⟨of_decide_eq_true c6, PySem.W.mg_of X N (He.eqO_ok b5), ⟨He.ma K (He.ga K (nm t.c)) "__init__", t.qual, a1.arg, a2.arg, ⟨xclsB_ok b1, He.eqO_ok b6, He.eqO_ok b7, of_decide_eq_true b8, He.eqO_ok b9, He.eqO_ok b10, hs, ?_, of_decide_eq_true c5, n1.1, n2.1, n1.2.1, n2.2.1⟩, He.eqO_ok b11, of_decide_eq_true b12⟩,
              xf.exC, of_decide_eq_true b13, b14, xf, ⟨xf.ga, xf.gg, xf.exC, xf.hdC, He.eqO_ok i1, He.eqO_ok i2, of_decide_eq_true i3, of_decide_eq_true i4⟩, of_decide_eq_true b15⟩
            rw [ebody] at lk
            refine ⟨oc, od, osl, "__init__", defArgs t.st, defScope t.st, .none, _, _, _, _, cda, _, cc, p1, p2, p3, p4, p5, p6, p7, p8, p9, p10, lk, d1, ⟨ccl, cdd, vs, ccs, file, tf, hcode, hvs, by rw [hpf]; exact d3⟩, ⟨cl, cld, csl, hcell⟩, rfl, ⟨a1, a2, he, rfl, rfl⟩, beq_iff_eq.mp s1, beq_iff_eq.mp s2, beq_iff_eq.mp s3, beq_iff_eq.mp s4, fun x hx e => ?_, ?_, ?_, ?_, hln⟩
            · have z := List.all_eq_true.mp s5 x hx
              rw [e] at z; cases z
            · simpa using s6
            · simpa using s7
            · split at s8
              · assumption
              · cases s8
          · cases d5
        · cases d3
      · cases d3
    · cases b2
  · cases hck
/-! ### except clauses -/
def xhB (K : PySem.W.Frag) (xs : List Xcx) (p : Nat × List Nat) : Bool := He.eqO (PySem.W.nsIn K mainGlobals (nm p.1)) (some (some (.ref (He.ga K (nm p.1))))) && (xs.all fun t => decide (PySem.W.exmOne K (.ref (He.ga K (nm t.c))) (.ref (He.ga K (nm p.1))) = some (p.2.contains t.c)) && decide (PySem.W.kitOne K (.ref (He.ga K (nm t.c))) (.ref (He.ga K (nm p.1))) = some (p.2.contains t.c)))
theorem mem_lookG {α β : Type} [BEq α] [LawfulBEq α] {x : α} {d : β} : ∀ {l : List (α × β)}, l.lookup x = some d → (x, d) ∈ l
  | [], h => by cases h
  | (y, e) :: l, h => by
    rw [List.lookup_cons] at h
    cases q : x == y with
    | true =>
      rw [q] at h
      cases h
      rw [beq_iff_eq.mp q]
      exact List.mem_cons_self
    | false =>
      rw [q] at h
      exact List.mem_cons_of_mem _ (mem_lookG h)
theorem xh_ok {K : PySem.W.Frag} {mg : Str → Option Value} {h : Heap} {xs : List Xcx} {p : Nat × List Nat} (X : K.In h) (N : h.Ns mainGlobals mg) (hb : xhB K xs p = true) : XhC K mg (xs.map fun t => (t.c, t.f)) p.1 p.2 := by
  obtain ⟨h1, h2⟩ := ba2 hb
  refine ⟨PySem.W.mg_of X N (He.eqO_ok h1), fun c f hl => ?_⟩
  obtain ⟨t, ht, e⟩ := List.mem_map.mp (mem_lookG hl)
  cases e
  obtain ⟨g1, g2⟩ := ba2 (List.all_eq_true.mp h2 t ht)
  exact ⟨of_decide_eq_true g1, of_decide_eq_true g2⟩

/-! ### a module's dict -/
def scB : D → Bool
  | .non => true | .bl _ => true | .int _ => true | .str _ => true
  | _ => false
def dvOf : D → He.Dv
  | .bl b => .bl b | .int i => .int i | .str s => .str ⟨s.toArray⟩
  | _ => .non
theorem dvOf_rep {K : PySem.W.Frag} {H : Hp} {io : Io} {d : D} (h : scB d = true) : Rep K H io d ((dvOf d).v K) := by
  cases d <;> first | rfl | cases h
structure Dcx where
  g : Nat
  kvs : List (List Nat × D)
def Dcx.ks (t : Dcx) : List Str := t.kvs.map fun p => (⟨p.1.toArray⟩ : Str)
def dcxB (K : PySem.W.Frag) (t : Dcx) : Bool := He.eqO (PySem.W.nsIn K mainGlobals (nm t.g)) (some (some (.ref (He.ga K (nm t.g))))) && (He.valsB K (He.ga K (nm t.g)) (t.kvs.map fun p => ((⟨p.1.toArray⟩ : Str), dvOf p.2)) && t.kvs.all fun p => scB p.2)
theorem dicW_ent {K : PySem.W.Frag} {a : Addr} {L : List (Option (Str × Int))} (h : He.dicW K a = some L) : ∃ es n, K.lookup a = some ⟨.type "dict", none, .dict es n, #[]⟩ ∧ es.toList.map He.keyOf = L := by
  unfold He.dicW at h
  cases q : K.lookup a with
  | none =>
    rw [q] at h
    cases h
  | some o =>
    obtain ⟨oc, od, dt, osl⟩ := o
    rw [q] at h
    cases oc with
    | type c =>
      cases od with
      | none =>
        cases dt with
        | dict es n =>
          have h1 : (match decide (c = "dict") && (osl.isEmpty && !(a == sysModules)) with
            | true => some (es.toList.map He.keyOf)
            | false => none) = some L := h
          cases z : decide (c = "dict") && (osl.isEmpty && !(a == sysModules)) with
          | false =>
            rw [z] at h1
            cases h1
          | true =>
            rw [z] at h1
            obtain ⟨z1, z2⟩ := ba2 z
            obtain ⟨z3, z4⟩ := ba2 z2
            have e1 : c = "dict" := of_decide_eq_true z1
            have e2 : osl = #[] := Array.isEmpty_iff.mp z3
            subst e1 e2
            exact ⟨es, n, rfl, Option.some.inj h1⟩
        | _ => cases h
      | some b => cases dt <;> cases h
    | _ => cases od <;> cases dt <;> cases h
theorem no_key {P : Params} {name : Str} : ∀ {l : List DictEntry} {ks : List Str}, l.map He.keyOf = He.keysIn P ks → name ∉ ks → l.find? (·.key.isStr name) = none ∧ l.any (·.refKey) = false
  | [], _, _, _ => ⟨rfl, rfl⟩
  | e :: r, [], h, _ => by cases h
  | e :: r, k :: ks, h, hn => by
    have h1 : He.keyOf e :: r.map He.keyOf = some (k, PyData.keyHash P k) :: He.keysIn P ks := h
    injection h1 with h2 h3
    obtain ⟨g1, g2⟩ := no_key h3 (fun z => hn (List.mem_cons_of_mem _ z))
    unfold He.keyOf at h2
    split at h2
    · rename_i x t q
      have h4 := Option.some.inj h2
      obtain ⟨h5, h6⟩ := Prod.mk.inj h4
      subst h5
      have ne : x ≠ name := fun z => hn (by rw [z]; exact List.mem_cons_self)
      have e1 : e.key.isStr name = false := by
        rw [q]
        exact beq_eq_false_iff_ne.mpr ne
      have e2 : e.refKey = false := by
        unfold DictEntry.refKey
        rw [q]
      refine ⟨?_, ?_⟩
      · rw [List.find?_cons, e1]; exact g1
      · rw [List.any_cons, e2, g2]; rfl
    · cases h2
theorem dcx_ok {K : PySem.W.Frag} {w : World} {mg : Str → Option Value} {h : Heap} {t : Dcx} (X : K.In h) (N : h.Ns mainGlobals mg) (hb : dcxB K t = true) (hd : He.dicW K (He.ga K (nm t.g)) = some (He.keysIn w.params t.ks)) : DicK K w mg t.g t.kvs := by
  obtain ⟨h1, hb⟩ := ba2 hb
  obtain ⟨h2, h3⟩ := ba2 hb
  refine ⟨PySem.W.mg_of X N (He.eqO_ok h1), He.dicW_ok hd, fun s d hl => ?_, fun s hl => ?_⟩
  · have hm := mem_lookG hl
    obtain ⟨u, e, r⟩ := He.valsB_ok h2 (q := (⟨s.toArray⟩, dvOf d)) (List.mem_map.mpr ⟨(s, d), hm, rfl⟩)
    exact ⟨u, _, e, r, fun H io => dvOf_rep (List.all_eq_true.mp h3 _ hm)⟩
  · obtain ⟨es, n, lk, em⟩ := dicW_ent hd
    have hn : (⟨s.toArray⟩ : Str) ∉ t.ks := fun z => by
      obtain ⟨p, hp, e⟩ := List.mem_map.mp z
      have e' : p.1 = s := by
        have := congrArg (fun z : Str => z.cps.toList) e
        simpa using this
      rw [List.lookup_eq_none_iff] at hl
      have := hl p hp
      simp [e'] at this
    obtain ⟨g1, g2⟩ := no_key em hn
    unfold PySem.W.nsIn
    rw [lk]
    dsimp only
    rw [g1]
    dsimp only
    rw [g2]
    rfl
end Mi

set_option maxRecDepth 100000
set_option maxHeartbeats 4000000
namespace Mi
open PySem PySem.Spec PyProof.Rows L2

/-! ### a def's body keeps its promise -/
theorem Post.ofEx {K : PySem.W.Frag} {io : Io} {H : Hp} {E : XK} {r : RS} {Q : VK} (p : Post K io H E (RpD K) (match r with
    | .ok (.nx _) st => .ok .non st
    | .ok (.rt v) st => .ok v st
    | .exc x _ st => .exc x st
    | _ => (.bad : R D)) Q) : PostS K io H (fun c d _ H' => E c d H') { nx := fun _ H' => Q .non H', rt := Q } r := by
  cases r with
  | ok f st =>
    cases f with
    | nx en => exact fun σ io' H' x so er => p .non io' H' x so rfl
    | rt v => exact p
    | bk _ => exact p.elim
    | ct _ => exact p.elim
  | exc x en st => exact fun c dx σ io' H' x so er ea => p c dx io' H' x so ea
  | bad => exact p.elim
section
variable {G : Gs} {C : Call} {P : Program} {w : World} {K : PySem.W.Frag} {mg : Str → Option Value} {base : Heap} {k : Nat} {f : Addr} {name qual : Str} {params : Arguments} {body : List Stmt} {scope : Scope} {dV kV doc pm cdv ct oc : Value} {an od : Option Addr} {osl : Array (Option Value)} {d : Df}
/-- how a def's values come to its parameters -/
def BndG (P : Program) (w : World) (K : PySem.W.Frag) (mg : Str → Option Value) (base : Heap) (fd : FuncData) (d : Df) : Prop :=
  ∀ (A : Around) (outer : List Env) (s : Shared) (H : Hp) (args : Args) (us : List Value) (vs : List V) (ds es : List D) (st : Sto) (io : Io), Env0 P w K mg base A outer s H → Given d.ps us args → Vals vs us → StOk K H io st → RepL K H io ds vs → fullD d ds = some es →
    ∀ (A' : Around) (Ex : Value → Shared → Prop) (Q : List (Str × Value) → Shared → Prop),
      (∀ (s2 : Shared) (H2 : Hp) (vs2 : List V) (us2 : List Value), Env0 P w K mg base A outer s2 H2 → Un (frs outer) [] H H2 s.heap s2.heap → s2.os = s.os → (∀ E e s', L2.CX P w outer H2 s2 E e s' → L2.CX P w outer H s E e s') →
        Vals vs2 us2 → vs2.length = d.ps.length → Ext io H io H2 → StOk K H2 io st → RepL K H2 io es vs2 → Q (d.ps.zip us2) s2) → wpAny (model P w) A' (bindArgs fd args) Q Ex s
theorem fnG_of (lk : K.lookup f = some ⟨oc, od, .func (PySem.W.fnOf name qual params body scope dV kV doc pm an cdv ct), osl⟩) (hcd : PySem.W.codeIn K cdv qual = true) (S : FnScope d.N d.ps scope)
    (hb : BndG P w K mg base (PySem.W.fnOf name qual params body scope dV kV doc pm an cdv ct) d)
    (hg : ∀ (A : Around) (outer : List Env) (s : Shared) (H : Hp) (E : XK), RoomG k (A.deeper (envOfC qual scope s.heap.objs.size f cdv)) →
      GoodS G C (cxOf (L2.CX P w) P w K mg base d.N qual scope f cdv A outer s H E) fun c dx _ H' => E c dx H') (hc : ckb G d.N d.b scope body = true) :
    FnG P w K mg base (k + 1) f d.ps (runD G C d) := by
  refine ⟨fun A outer s H args us vs ds st io Q E hr e0 hgv r so rl p => ?_⟩
  unfold runD at p
  cases hfull : fullD d ds with
  | none => rw [hfull] at p; exact p.elim
  | some es =>
    rw [hfull] at p
    have KX : K.In s.heap := e0.mod.kin.keeps fun b o e => (e0.bs b o e).1
    refine codeAny_call_function hr.room.depth (KX _ _ lk) rfl S.co S.gen rfl (PySem.W.codeRec_of KX hcd) ?_
    refine hb A outer s H args us vs ds es st io e0 hgv r so rl hfull _ _ _ fun s2 H2 vs2 us2 e2 un ho hx r2 hl x2 so2 rl2 => ?_
    have p2 : Post K io H2 E (RpD K) (bodyD G C d es st) Q := Post.more x2 p
    unfold bodyD at p2
    have lim : s2.heap.NoLimit := e0.mod.nolimit.keeps fun b o e => (e2.bs b o e).1
    have kinds : ∀ y ∈ d.ps.zip us2, scope.names.lookup y.1 = some .local ∨ (scope.names.lookup y.1 = some .cell ∧ ((cellsFrom (s2.heap.objs.size + 1) scope.names []).lookup y.1).isSome = true) := fun ⟨n, v⟩ hy =>
      (S.par n (List.of_mem_zip hy).1).imp id fun q => ⟨q, PySem.W.cellsFrom_some _ _ _ (.inl q)⟩
    refine wpAny_newFunctionEnv_cells (s := s2) S.kind kinds fun env he s1 x => ?_
    subst he
    refine ⟨lim.keeps x.toInCall.keep, codeAny_func ?_⟩
    have ht := ((oks (G := G) (C := C) d.b) _ _ (hg A outer s2 H2 E (hr.deeper _))).2 body hc
    have I : Inv (cxOf (L2.CX P w) P w K mg base d.N qual scope f cdv A outer s2 H2 E) [] (start d.N vs2) H2 s1 := inv_start S hr.room.hd e2 hl r2 x
    have er := EnvR.start rl2 d.N
    refine wpAny_mono (ht.run [] s1 (start d.N vs2) H2 _ I ⟨_, st, io, er, so2, Post.ofEx p2⟩) (fun fl s' hs => ?_) fun e s' hs => ?_
    · have fin : ∀ {σ' : L2.St} {H' : Hp} {v' : V} {u' : Value}, Inv (cxOf (L2.CX P w) P w K mg base d.N qual scope f cdv A outer s2 H2 E) [] σ' H' s' → RelV v' u' → Q v' H' → CE outer P w H s Q u' s' :=
        fun {σ' H' v' u'} J rv' q => ⟨v', H', J.os.trans ho, J.bare, un.trans J.base, J.hok, rv', q⟩
      cases fl with
      | ret u =>
        obtain ⟨v, σ', H', J, rv, q⟩ := hs
        exact fin J rv q
      | next =>
        obtain ⟨σ', H', J, q⟩ := hs
        exact fin (v' := V.non) (u' := Value.none) J rfl q
      | brk =>
        obtain ⟨_, _, _, q⟩ := hs
        exact False.elim q
      | cont =>
        obtain ⟨_, _, _, q⟩ := hs
        exact False.elim q
    · exact wpAny_mono hs (fun _ s'' z => hx _ _ s'' z) fun e' s'' z => hx _ e' s'' z
theorem bndG_plain {fd : FuncData} {as : List Arg} (hp : fd.params = ⟨[], as, none, [], [], none, []⟩) (hd : fd.defaults = .none) (ha : as.map (·.arg) = d.ps) (hn : d.ps.Nodup) (hv : d.va = false) (hdf : d.dfl = []) : BndG P w K mg base fd d := by
  intro A outer s H args us vs ds es st io e0 hgv r so rl hfull A' Ex Q h
  have hl : ds.length = d.ps.length ∧ es = ds := by
    unfold fullD at hfull
    rw [hv, hdf] at hfull
    dsimp only at hfull
    split at hfull
    · rename_i h1; cases hfull; exact ⟨h1, rfl⟩
    · rename_i h1
      split at hfull
      · rename_i h2
        simp only [List.length_nil, Nat.add_zero] at h2
        omega
      · cases hfull
  obtain ⟨hl, rfl⟩ := hl
  have hvl : vs.length = d.ps.length := by rw [← rl.len]; exact hl
  have hul : us.length = d.ps.length := by rw [← r.length]; exact hvl
  have eb : bindArgs fd args = pure (d.ps.zip us) := by
    cases hgv with
    | pl => exact binds_plain hp hd ha hn hul
    | kw hp2 hu =>
      rename_i p u
      rw [hu, hp2]
      exact binds_kw hp hd (by rw [ha, hp2])
  rw [eb]
  exact wpAny_pure (h s H vs us e0 Un.refl rfl (fun _ _ _ z => z) r hvl (Ext.refl _ _) so rl)
end

/-! ### a table of defs -/
structure Tx where
  f : Nat
  st : Stmt
  d : Df
def ckArgs (ps : List Str) : Arguments → Bool
  | ⟨[], as, none, [], [], none, []⟩ => decide (as.map (·.arg) = ps)
  | _ => false
theorem args_of {ps : List Str} {p : Arguments} (h : ckArgs ps p = true) : ∃ as, p = ⟨[], as, none, [], [], none, []⟩ ∧ as.map (·.arg) = ps := by
  unfold ckArgs at h
  split at h
  · exact ⟨_, rfl, of_decide_eq_true h⟩
  · cases h
theorem binds_va {fd : FuncData} {a1 a2 av : Arg} {us rest : List Value} (hp : fd.params = ⟨[], [a1, a2], some av, [], [], none, []⟩) (hd : fd.defaults = .none) (hn : a1.arg ≠ a2.arg) (hl : us.length = [a1.arg, a2.arg].length) :
    bindArgs fd ⟨us ++ rest, []⟩ = (newTuple rest >>= fun t => pure ([a1.arg, a2.arg].zip us ++ [(av.arg, t)])) := by
  match us, hl with
  | [u1, u2], _ =>
    unfold bindArgs
    have sq : seqItems? .none = pure none := rfl
    have e : (a2.arg == a1.arg) = false := beq_eq_false_iff_ne.mpr (Ne.symm hn)
    cases rest with
    | nil => simp [hp, hd, sq, pure_bind, List.lookup, e]
    | cons r rs => simp [hp, hd, sq, pure_bind, List.lookup, e]
theorem binds_dfl {M : Model} {A : Around} {E : Value → Shared → Prop} {s : Shared} {Q : List (Str × Value) → Shared → Prop} {fd : FuncData} {a1 a2 a3 : Arg} {u1 u2 x : Value} {T : Addr} {o : Obj} {n : Nat} {dfs : List Expr} (hp : fd.params = ⟨[], [a1, a2, a3], none, [], [], none, dfs⟩) (hd : fd.defaults = .ref T)
    (h12 : a1.arg ≠ a2.arg) (h13 : a1.arg ≠ a3.arg) (h23 : a2.arg ≠ a3.arg) (ho : s.heap.get? T = some o) (od : o.data = .seq #[x] n) (q : Q ([a1.arg, a2.arg, a3.arg].zip [u1, u2, x]) s) :
    wpAny M A (bindArgs fd ⟨[u1, u2], []⟩) Q E s := by
  unfold bindArgs
  have e21 : (a2.arg == a1.arg) = false := beq_eq_false_iff_ne.mpr (Ne.symm h12)
  have e31 : (a3.arg == a1.arg) = false := beq_eq_false_iff_ne.mpr (Ne.symm h13)
  have e32 : (a3.arg == a2.arg) = false := beq_eq_false_iff_ne.mpr (Ne.symm h23)
  simp only [hp, hd]
  refine wpAny_bind (wpAny_pure ?_)
  refine wpAny_bind (wpAny_seqItems ho od ?_)
  simp [pure_bind, List.lookup, e21, e31, e32]
  exact wpAny_pure q
theorem binds_full {M : Model} {A : Around} {E : Value → Shared → Prop} {s : Shared} {Q : List (Str × Value) → Shared → Prop} {fd : FuncData} {a1 a2 a3 : Arg} {u1 u2 u3 x : Value} {T : Addr} {o : Obj} {n : Nat} {dfs : List Expr} (hp : fd.params = ⟨[], [a1, a2, a3], none, [], [], none, dfs⟩) (hd : fd.defaults = .ref T)
    (h12 : a1.arg ≠ a2.arg) (h13 : a1.arg ≠ a3.arg) (h23 : a2.arg ≠ a3.arg) (ho : s.heap.get? T = some o) (od : o.data = .seq #[x] n) (q : Q ([a1.arg, a2.arg, a3.arg].zip [u1, u2, u3]) s) :
    wpAny M A (bindArgs fd ⟨[u1, u2, u3], []⟩) Q E s := by
  unfold bindArgs
  have e21 : (a2.arg == a1.arg) = false := beq_eq_false_iff_ne.mpr (Ne.symm h12)
  have e31 : (a3.arg == a1.arg) = false := beq_eq_false_iff_ne.mpr (Ne.symm h13)
  have e32 : (a3.arg == a2.arg) = false := beq_eq_false_iff_ne.mpr (Ne.symm h23)
  simp only [hp, hd]
  refine wpAny_bind (wpAny_pure ?_)
  refine wpAny_bind (wpAny_seqItems ho od ?_)
  simp [pure_bind, List.lookup, e21, e31, e32]
  exact wpAny_pure q

def ckVa (ps : List Str) : Arguments → Bool
  | ⟨[], [a1, a2], some av, [], [], none, []⟩ => decide ([a1.arg, a2.arg, av.arg] = ps)
  | _ => false
def ckDf (ps : List Str) : Arguments → Bool
  | ⟨[], [a1, a2, a3], none, [], [], none, _⟩ => decide ([a1.arg, a2.arg, a3.arg] = ps)
  | _ => false
def ckBind (d : Df) (p : Arguments) : Bool := match d.va, d.dfl with
  | false, [] => ckArgs d.ps p
  | true, [] => ckVa d.ps p
  | false, [x] => scB x && ckDf d.ps p
  | _, _ => false
section
variable {P : Program} {w : World} {K : PySem.W.Frag} {mg : Str → Option Value} {base : Heap} {name qual : Str} {params : Arguments} {body : List Stmt} {scope : Scope} {dV kV doc pm cdv ct : Value} {an : Option Addr} {d : Df}
theorem bnd_of (h : ckBind d params = true) (hn : d.ps.Nodup) (hD : DflV K dV (d.dfl.map fun x => (dvOf x).v K)) : BndG P w K mg base (PySem.W.fnOf name qual params body scope dV kV doc pm an cdv ct) d := by
  unfold ckBind at h
  have hdn : d.dfl = [] → dV = .none := fun e => by
    rw [e] at hD
    rcases hD with ⟨_, z⟩ | ⟨z, _⟩
    · exact z
    · exact absurd rfl z
  split at h
  · rename_i e1 e2
    obtain ⟨as, ea, em⟩ := args_of h
    exact bndG_plain (as := as) ea (hdn e2) em hn e1 e2
  · rename_i e1 e2
    unfold ckVa at h
    split at h
    · rename_i a1 a2 av
      have ep := of_decide_eq_true h
      have h12 : a1.arg ≠ a2.arg := fun z => by rw [← ep] at hn; simp [z] at hn
      intro A outer s H args us vs ds es st io e0 hgv r so rl hfull A' Ex Q hQ
      cases hgv with
      | kw hp2 hu => rw [← ep] at hp2; cases hp2
      | pl =>
        unfold fullD at hfull
        rw [e1] at hfull
        dsimp only at hfull
        rw [← ep] at hfull
        split at hfull
        · rename_i hl
          cases hfull
          obtain ⟨hl1, _, hl3⟩ := hl
          match ds, rl, hl1 with
          | d1 :: d2 :: dr, rl, _ =>
            obtain ⟨v1, vs1, rfl, r1, rl⟩ := rl
            obtain ⟨v2, vr, rfl, r2, rl⟩ := rl
            match us, r with
            | u1 :: u2 :: ur, .cons q1 (.cons q2 qr) =>
              have hn0 : H s.heap.objs.size = Option.none := e0.hok.fresh (Nat.le_refl _)
              have hz : vr.length ≤ sizeLine := by rw [← rl.len, ← sz_eq]; simp at hl3; omega
              have hz2 : ur.length ≤ sizeLine := by rw [← qr.length]; exact hz
              have eb := binds_va (fd := PySem.W.fnOf name qual ⟨[], [a1, a2], some av, [], [], none, []⟩ body scope dV kV doc pm an cdv ct) (a1 := a1) (a2 := a2) (av := av) (us := [u1, u2]) (rest := ur) rfl (hdn e2) h12 rfl
              rw [show u1 :: u2 :: ur = [u1, u2] ++ ur from rfl, eb]
              refine wpAny_bind (wpAny_newTuple (wpAny_pure ?_) hz2)
              have new : ObjOk P w (upd H s.heap.objs.size (.tup vr)) (s.heap.push ({ cls := .type "tuple", data := .seq ur.toArray } : Obj)) s.heap.objs.size (.tup vr) := ⟨hz, ur, qr, ⟨_, Heap.get?_push_size _ rfl, rfl, _, rfl⟩⟩
              have un := StX.un_laid (fs := frs outer) (s := s) (o := ({ cls := .type "tuple", data := .seq ur.toArray } : Obj)) (u := .tup vr) hn0
              have x := Ext.fresh so hn0 (.tup vr)
              have z := hQ _ _ [v1, v2, V.ref s.heap.objs.size] [u1, u2, Value.ref s.heap.objs.size] (StX.env0_laid e0 new) un rfl (fun E e s' => StX.cxUp outer s H _ _ E e s' un (fun b o q => Heap.get?_push_of_some _ q) rfl) (.cons q1 (.cons q2 (.cons rfl .nil)))
                (by rw [← ep]; rfl) x (so.fresh hn0 _) (.cons (Rep.ext x _ _ r1) (.cons (Rep.ext x _ _ r2) (.cons ⟨_, vr, rfl, upd_same, RepL.ext x _ _ rl⟩ .nil)))
              rw [← ep] at z
              exact z
        · cases hfull
    · cases h
  · rename_i x e1 e2
    rw [Bool.and_eq_true] at h
    obtain ⟨hs, h⟩ := h
    unfold ckDf at h
    split at h
    · rename_i a1 a2 a3 dfs
      have ep := of_decide_eq_true h
      rw [e2] at hD
      rcases hD with ⟨z, _⟩ | ⟨_, T, o, its, n, eT, lk, od, rv⟩
      · cases z
      · obtain ⟨ux, rfl, rux⟩ := Vals.one rv
        have hn' := hn
        rw [← ep] at hn'
        simp only [List.nodup_cons, List.mem_cons, List.not_mem_nil, or_false, not_or, List.nodup_nil, and_true, not_false_eq_true] at hn'
        obtain ⟨⟨h12, h13⟩, h23⟩ := hn'
        intro A outer s H args us vs ds es st io e0 hgv r so rl hfull A' Ex Q hQ
        have ho : s.heap.get? T = some o := (e0.mod.kin.keeps fun b o e => (e0.bs b o e).1) _ _ lk
        cases hgv with
        | kw hp2 hu => rw [← ep] at hp2; cases hp2
        | pl =>
          unfold fullD at hfull
          rw [e1, e2, ← ep] at hfull
          dsimp only at hfull
          have fin : ∀ (vs2 : List V) (us2 : List Value), Vals vs2 us2 → vs2.length = 3 → RepL K H io es vs2 → Q ([a1.arg, a2.arg, a3.arg].zip us2) s := fun vs2 us2 q1 q2 q3 => by
            have z := hQ s H vs2 us2 e0 Un.refl rfl (fun _ _ _ z => z) q1 (by rw [← ep]; exact q2) (Ext.refl _ _) so q3
            rw [← ep] at z
            exact z
          match ds, rl with
          | [], _ => simp at hfull
          | [_], _ => simp at hfull
          | [d1, d2], rl =>
            have he : es = [d1, d2, x] := by simpa using hfull.symm
            obtain ⟨v1, v2, rfl, r1, r2⟩ := rl.two
            obtain ⟨u1, u2, rfl, q1, q2⟩ := r.two
            refine binds_dfl (a1 := a1) (a2 := a2) (a3 := a3) (dfs := dfs) rfl eT h12 h13 h23 ho od ?_
            exact fin [v1, v2, (dvOf x).v K] [u1, u2, ux] (.cons q1 (.cons q2 (.cons rux .nil))) rfl (by rw [he]; exact .cons r1 (.cons r2 (.cons (dvOf_rep hs) .nil)))
          | [d1, d2, d3], rl =>
            have he : es = [d1, d2, d3] := by simpa using hfull.symm
            obtain ⟨v1, vs1, rfl, r1, rl⟩ := rl
            obtain ⟨v2, v3, rfl, r2, r3⟩ := rl.two
            match us, r with
            | [u1, u2, u3], .cons q1 (.cons q2 (.cons q3 .nil)) =>
              refine binds_full (a1 := a1) (a2 := a2) (a3 := a3) (dfs := dfs) rfl eT h12 h13 h23 ho od ?_
              exact fin [v1, v2, v3] [u1, u2, u3] (.cons q1 (.cons q2 (.cons q3 .nil))) rfl (by rw [he]; exact .cons r1 (.cons r2 (.cons r3 .nil)))
          | _ :: _ :: _ :: _ :: _, _ => simp at hfull
    · cases h
  · cases h
end
def ckTx (G : Gs) (t : Tx) : Bool := ckBind t.d (defArgs t.st) && ckScope t.d.N t.d.ps (defScope t.st) && ckb G t.d.N t.d.b (defScope t.st) (defBody t.st)
def mN (f : Nat) : Nat := if f % 10000 < 5000 then f % 10000 else f % 10000 - 5000
def Tx.prp (t : Tx) : Bool := decide (10000 ≤ t.f) && decide (5000 ≤ t.f % 10000)
def Tx.at_ (t : Tx) : Str × Option Str := if t.f < 10000 then (nm t.f, none) else (nm (t.f / 10000), some (nm (mN t.f)))
def Tx.nam (t : Tx) : Str := if t.f < 10000 then nm t.f else nm (mN t.f)
def Tx.qual (t : Tx) : Str := if t.f < 10000 then nm t.f else nm (t.f / 10000) ++ ("." : Str) ++ nm (mN t.f)
def Tx.dD (t : Tx) : He.DefD := ⟨t.at_, t.nam, t.qual, defArgs t.st, defBody t.st, defScope t.st, t.d.dfl.map dvOf, []⟩
theorem Tx.fAd (t : Tx) (K : PySem.W.Frag) (h : t.prp = false) : He.fAd K t.at_ = fnA K t.f := by
  unfold Tx.at_ fnA
  split
  · rfl
  · rename_i hn
    have hp : t.f % 10000 < 5000 := by
      unfold Tx.prp at h
      simp at h
      omega
    unfold mN
    rw [if_pos hp, if_pos hp]
    rfl
def tabF (T : List Tx) : List (Nat × List Str) := T.map fun t => (t.f, t.d.ps)
def tabD (T : List Tx) : List (Nat × Df) := T.map fun t => (t.f, t.d)
theorem tab_look {T : List Tx} {f : Nat} {ps : List Str} (h : (tabF T).lookup f = some ps) : ∃ t, t ∈ T ∧ t.f = f ∧ t.d.ps = ps ∧ (tabD T).lookup f = some t.d := by
  induction T with
  | nil => cases h
  | cons t T ih =>
    unfold tabF at h
    rw [List.map_cons, List.lookup_cons] at h
    unfold tabD
    rw [List.map_cons, List.lookup_cons]
    cases e : f == t.f with
    | true =>
      rw [e] at h
      cases h
      exact ⟨t, List.mem_cons_self, (beq_iff_eq.mp e).symm, rfl, rfl⟩
    | false =>
      rw [e] at h
      obtain ⟨t', h1, h2, h3, h4⟩ := ih h
      exact ⟨t', List.mem_cons_of_mem _ h1, h2, h3, h4⟩
/-- what the head tells of the module -/
structure Told (P : Program) (w : World) (G : Gs) (T : List Tx) (K : PySem.W.Frag) (mg : Str → Option Value) : Prop where
  fns : G.fns = tabF T
  at_ : ∀ t ∈ T, FnAt mg K t.f
  def_ : ∀ t ∈ T, ∃ fd, FunD K t.nam t.qual (defArgs t.st) (defBody t.st) (defScope t.st) (t.d.dfl.map fun x => (dvOf x).v K) [] (fnA K t.f) fd
  fld : FldOk K G.F
  no : ∀ x ∈ G.no, mg x = none
  glo : ∀ x d, G.glo.lookup x = some d → ∃ u v, mg (nm x) = some u ∧ RelV v u ∧ ∀ H io, Rep K H io d v
  sysm : SysD K
  itr : ∀ (base : Heap) c f, G.itr.lookup c = some f → ItrG P w K mg base c f
  exc : ∀ c f, G.exc.lookup c = some f → XcC P K mg c f
  exh : ∀ x l, G.exh.lookup x = some l → XhC K mg G.exc x l
  dic : ∀ x l, G.dic.lookup x = some l → DicK K w mg x l
theorem fns_ok {G : Gs} {T : List Tx} {P : Program} {w : World} {K : PySem.W.Frag} {mg : Str → Option Value} {base : Heap} (h : Told P w G T K mg) (hc : T.all (ckTx G) = true) :
    ∀ (n : Nat) (f : Nat) (ps : List Str), G.fns.lookup f = some ps → FnAt mg K f ∧ FnG P w K mg base (2 * n) (fnA K f) ps (callN G (tabD T) n f)
  | 0, f, ps, hf => by
    rw [h.fns] at hf
    obtain ⟨t, ht, rfl, rfl, _⟩ := tab_look hf
    exact ⟨h.at_ t ht, ⟨fun A outer s H args us vs ds st io Q E hr e0 hgv r so rl p => p.elim⟩⟩
  | n + 1, f, ps, hf => by
    have hf0 := hf
    rw [h.fns] at hf
    obtain ⟨t, ht, rfl, rfl, hd⟩ := tab_look hf
    obtain ⟨fd, F⟩ := h.def_ t ht
    refine ⟨h.at_ t ht, ?_⟩
    obtain ⟨oc, od, dV, kV, doc, pm, an, cdv, ct, osl, e, lk, hcd, hdv, hkw⟩ := F.ex
    subst e
    have ct := List.all_eq_true.mp hc t ht
    unfold ckTx at ct
    simp only [Bool.and_eq_true] at ct
    obtain ⟨⟨c1, c2⟩, c3⟩ := ct
    have S := scope_of c2
    have npd : t.d.ps.Nodup := by rw [← S.pre]; exact S.nd.sublist (List.take_sublist _ _)
    have e1 : callN G (tabD T) (n + 1) t.f = runD G (callN G (tabD T) n) t.d := by
      funext ds st
      show (match (tabD T).lookup t.f with | some d => runD G (callN G (tabD T) n) d ds st | none => R.bad) = _
      rw [hd]
    rw [e1]
    refine (fnG_of (k := 2 * n + 1) lk hcd S (bnd_of c1 npd hdv) (fun A outer s H E hr => ?_) c3).mono (by omega)
    exact ⟨⟨rfl, S.nd, S.kind, ⟨2 * n, hr, fun f ps hf => fns_ok h hc n f ps hf⟩, h.fld, h.no, h.glo, takes_of rfl rfl rfl rfl, h.sysm, h.itr base, h.exc, h.exh, h.dic⟩, fun _ => rfl, passes_of rfl, rfl, rfl⟩
end Mi

set_option maxRecDepth 100000
set_option maxHeartbeats 4000000
namespace Mi
open PySem PySem.Spec PyProof.Rows L2

/-! ### the head: the module's part of the heap, and where the modules are kept -/
def sysB (K : PySem.W.Frag) : Bool := match K.lookup sysModules with
  | some o => (match o.data with
    | .dict _ _ => true
    | _ => false)
  | none => false
theorem sys_of {K : PySem.W.Frag} (h : sysB K = true) : SysD K := by
  unfold sysB at h
  cases e : K.lookup sysModules with
  | none => rw [e] at h; cases h
  | some o =>
    simp only [e] at h
    cases d : o.data with
    | dict es n => exact ⟨o, es, n, e, d⟩
    | _ => rw [d] at h; cases h
/-- what is asked of the module -/
structure Hx where
  fa : List He.Fa
  fn : List He.DefD
  ps : List Tx
  xs : List Xcx
  xh : List (Nat × List Nat)
  ds : List Dcx
  pf : Str
abbrev AlM : Type := Bool × He.AlD × List He.FnW × List XfnW × List (Option (List (Option (Str × Int))))
def fragM (as : List Addr) (g : Addr → Option Obj) : PySem.W.Frag := He.frG g (sysModules :: cStatics :: as)
def hxB (K : PySem.W.Frag) (x : Hx) : Bool := sysB K && (x.ps.all (fun t => prpB K (He.ga K (nm (t.f / 10000))) (nm (mN t.f)) && okA K t.dD (fnA K t.f)) && (x.xs.all (xcxB K x.pf) && (x.xh.all (xhB K x.xs) && x.ds.all (dcxB K))))
def obsK (x : Hx) (K : PySem.W.Frag) : AlM := (hxB K x, He.obsD x.fa x.fn K, x.ps.map (fun t => fnWA K (fnA K t.f)), x.xs.map (fun t => xfnW K (He.ma K (He.ga K (nm t.c)) "__init__")), x.ds.map fun t => He.dicW K (He.ga K (nm t.g)))
def valK (x : Hx) (w : World) : AlM := (true, He.valD x.fn, x.ps.map (fun t => t.dD.val), x.xs.map Xcx.val, x.ds.map fun t => some (He.keysIn w.params t.ks))
def obsM (as : List Addr) (x : Hx) (g : Addr → Option Obj) : AlM := obsK x (fragM as g)
def SaysM (x : Hx) (w : World) (K : PySem.W.Frag) : Prop := obsK x K = valK x w
def hookM (as : List Addr) (x : Hx) : PySem.W.Hook where
  α := AlM
  obs := fun s => obsM as x s.heap.get?
  val := fun w => valK x w
  says := fun w h => ∃ K : PySem.W.Frag, K.In h ∧ SaysM x w K
  of := fun _ _ e => ⟨_, He.frG_in, e⟩
  keeps := fun _ _ _ ⟨K, hK, c⟩ k => ⟨K, PySem.W.Frag.In.keeps hK k, c⟩
theorem obsM_eq {n : List Addr} {x : Hx} {g : Addr → Option Obj} {s : Shared} (h : ∀ a, g a = s.heap.get? a) : obsM n x g = (hookM n x).obs s := by
  have e : g = s.heap.get? := funext h
  rw [e] <;> rfl
section
variable {x : Hx} {w : World} {K : PySem.W.Frag}
theorem SaysM.b (c : SaysM x w K) : hxB K x = true := congrArg (fun z : AlM => z.1) c
theorem SaysM.d (c : SaysM x w K) : He.SaysD x.fa x.fn K := congrArg (fun z : AlM => z.2.1) c
theorem map_at {α β : Type} {f g : α → β} {l : List α} (h : l.map f = l.map g) {a : α} (ha : a ∈ l) : f a = g a := by
  obtain ⟨i, hi⟩ := List.mem_iff_getElem?.mp ha
  have e : (l.map f)[i]? = (l.map g)[i]? := by rw [h]
  rw [List.getElem?_map, List.getElem?_map, hi] at e
  exact Option.some.inj e
theorem SaysM.pr (c : SaysM x w K) {t : Tx} (h : t ∈ x.ps) : fnWA K (fnA K t.f) = t.dD.val := map_at (f := fun t : Tx => fnWA K (fnA K t.f)) (g := fun t : Tx => t.dD.val) (congrArg (fun z : AlM => z.2.2.1) c) h
theorem SaysM.xc (c : SaysM x w K) {t : Xcx} (h : t ∈ x.xs) : xfnW K (He.ma K (He.ga K (nm t.c)) "__init__") = t.val := map_at (f := fun t : Xcx => xfnW K (He.ma K (He.ga K (nm t.c)) "__init__")) (congrArg (fun z : AlM => z.2.2.2.1) c) h
theorem SaysM.dt (c : SaysM x w K) {t : Dcx} (h : t ∈ x.ds) : He.dicW K (He.ga K (nm t.g)) = some (He.keysIn w.params t.ks) := map_at (f := fun t : Dcx => He.dicW K (He.ga K (nm t.g))) (g := fun t : Dcx => some (He.keysIn w.params t.ks)) (congrArg (fun z : AlM => z.2.2.2.2) c) h
end

/-! ### the law's call -/
/-- from an abstract heap that holds the script alone, or nothing -/
theorem law_from {P : Program} {w : World} {K : PySem.W.Frag} {mg mb : Str → Option Value} {k : Nat} {fa a : Addr} {ps : List Str} {m : List D → Sto → R D} {s1 : Shared} {vs : List Value} {ns : List Int} {H : Hp}
    (KX : K.In s1.heap) (hns : s1.heap.Ns mainGlobals mg) (hb : s1.heap.Ns builtinsNs mb) (hbb : ∀ x : Str, x ≠ "__name__" → mb x = bootBuiltins x) (hlim : s1.heap.NoLimit) (hg : s1.gens = #[])
    (ha : s1.heap.get? a = some { cls := .type "list", data := .seq vs.toArray }) (hr : RoomG k callerA)
    (F : ∀ base : Heap, K.In base → base.Ns mainGlobals mg → FnG P w K mg base k fa ps m) (hm : ∃ st, m [.fro (ns.map D.int)] [] = .ok (.bl true) st)
    (hO : Only H) (hS : FroAt K H ⟨[], []⟩ a (ns.map V.int)) (hok : HOk P w H s1.heap) (hA : ∀ b, H b ≠ none → b = a) (hK : H a ≠ none → K.lookup a = none) :
    codeAny (model P w) callerA (.call (.ref fa) ⟨[.ref a], []⟩) (fun r s' => r = .ok (.ret (.bool true)) ∧ OldK s1.heap s'.heap ∧ s'.os = s1.os ∧ AllBare s'.gens) s1 := by
  have away : ∀ {b : Addr} {o : Obj}, s1.heap.get? b = some o → (∀ vs n, o.data ≠ .seq vs n) → H b = none := fun {b o} e d => by
    cases q : H b with
    | none => rfl
    | some u =>
      have e' : b = a := hA b (by rw [q]; simp)
      subst e'
      rw [ha] at e; cases e
      exact absurd rfl (d _ _)
  have ns_in : ∀ {b : Addr} {f : Str → Option Value}, s1.heap.Ns b f → (hidT s1.heap H).Ns b f := fun {b f} ⟨o, es, ep, e, d, r⟩ =>
    ⟨o, es, ep, hidT_get e (away e fun _ _ z => by rw [d] at z; cases z), d, r⟩
  have Kb : K.In (hidT s1.heap H) := fun b o e => hidT_get (KX b o e) (by
    cases q : H b with
    | none => rfl
    | some u =>
      have e' : b = a := hA b (by rw [q]; simp)
      subst e'
      rw [hK (by rw [q]; simp)] at e; cases e)
  have M : Mod K mg (hidT s1.heap H) := ⟨Kb, ns_in hns, ⟨mb, ns_in hb, hbb⟩, let ⟨mc, q1, q2⟩ := hlim; ⟨mc, ns_in q1, q2⟩⟩
  have e0 : Env0 P w K mg (hidT s1.heap H) callerA [] s1 H :=
    ⟨rfl, M, fun _ _ e => of_hidT e, Nat.le_of_eq (hidT_size _ _), trivial, fun b z => absurd (show b ∈ ([] : List Addr) from z) (by simp), hok, .of_eq hg⟩
  obtain ⟨st, em⟩ := hm
  have so : StOk K H ⟨[], []⟩ [] := ⟨rfl, List.nodup_nil, fun n a b e _ => by simp [Io.get] at e, fun a z => by cases z⟩
  have rl : RepL K H ⟨[], []⟩ [.fro (ns.map D.int)] [.ref a] := .cons ⟨a, _, rfl, hS, RepL.map (f := D.int) (g := V.int) (fun _ => rfl) ns⟩ .nil
  refine codeAny_mono ((F _ Kb (ns_in hns)).run callerA [] s1 H ⟨[.ref a], []⟩ [.ref a] [.ref a] _ [] _ (fun v _ => v = .bl true) (fun _ _ _ => False) hr e0 .pl (.cons rfl .nil) so rl (by
    rw [em]
    exact fun v io' H' x so' r => r)) fun r s' hq => ?_
  cases r with
  | error e => obtain ⟨_, _, _, _, _, _, _, _, _, _, _, _, z⟩ := hq; exact z.elim
  | ok fl =>
    cases fl with
    | next => exact False.elim hq
    | brk => exact False.elim hq
    | cont => exact False.elim hq
    | ret u =>
      obtain ⟨v, H', hos, bare, un, hok', r', q⟩ := hq
      have q' : v = .bl true := q
      subst q'
      obtain rfl : u = Value.bool true := r'
      refine ⟨rfl, OldK.of_keep fun b o e => ?_, hos, bare⟩
      cases q : H b with
      | none => exact un.keep b o e q (fun z => absurd (show b ∈ ([] : List Addr) from z) (by simp)) (by simp)
      | some u =>
        rcases hO b with z | ⟨ob, xs, z⟩
        · rw [q] at z; cases z
        · obtain ⟨e1, _⟩ := hok b _ z
          obtain ⟨e2, _⟩ := hok' b _ (un.frzs b ob _ z)
          rw [e] at e1; cases e1
          exact e2
theorem lawG {l : PySem.W.OpenLaw} {n k : Nat} {q : Program} {loose : List Str} {XP : (Str → Option Value) → Heap → Prop} {YP : World → Heap → Prop} {d : DefRec} {ps : List Str}
    (hn : l.most = some n) (hn2 : n ≤ sizeLine) (hdf : d.params.defaults = []) (hr : RoomG k callerA)
    (F : ∀ (w : World) (mg : Str → Option Value) (fa : Addr) (h : Heap), YP w h → h.Ns mainGlobals mg → mg d.name = some (.ref fa) →
      ∃ (K : PySem.W.Frag) (m : List D → Sto → R D), K.In h ∧ (∀ ns : List Int, ns.length ≤ n → ∃ st, m [.fro (ns.map D.int)] [] = .ok (.bl true) st) ∧
        ∀ base : Heap, K.In base → base.Ns mainGlobals mg → FnG l.prog w K mg base k fa ps m) :
    PySem.W.WalkO q loose XP YP l.row.toRowW d [] (fun f vs => PySem.call f vs) := by
  refine Att.attach_call hn hdf fun w s0 s1 mg mb fa o pm cd doc a vs ns G Y ho hd hcd hmg hobj hints hlen hg => ?_
  obtain ⟨K, m, KX, hm, hF⟩ := F w mg fa _ Y G.T.g hmg
  have rv := vals_ints hints
  have hl : ns.length ≤ sizeLine := Nat.le_trans hlen hn2
  cases hk : K.lookup a with
  | some ob =>
    have e := KX a ob hk
    rw [hobj] at e
    cases e
    exact law_from (H := fun _ => none) KX G.T.g G.T.b G.T.builtins G.T.nolimit hg hobj hr hF (hm ns hlen) (fun _ => .inl rfl)
      (.inr ⟨_, vs.toArray, _, hk, rfl, rfl, rfl, by rw [List.size_toArray, hints.length]; exact hl, by simpa using rv⟩) (fun b u z => nomatch (show (none : Option HO) = some u from z)) (fun b z => absurd rfl z) fun z => absurd rfl z
  | none =>
    let H : Hp := upd (fun _ => none) a (.frz { cls := .type "list", data := .seq vs.toArray } (.lst (ns.map V.int)))
    have other : ∀ b, b ≠ a → H b = none := fun b hb => upd_ne hb
    refine law_from (H := H) KX G.T.g G.T.b G.T.builtins G.T.nolimit hg hobj hr hF (hm ns hlen) (fun b => ?_) (.inl ⟨_, upd_same, by rintro (z | z) <;> simp at z⟩) (fun b u z => ?_) (fun b z => ?_) fun _ => hk
    · by_cases hb : b = a
      · subst hb; exact .inr ⟨_, _, upd_same⟩
      · exact .inl (other b hb)
    · by_cases hb : b = a
      · subst hb
        have z' := (show H b = _ from upd_same).symm.trans z
        cases z'
        exact ⟨hobj, by rw [List.length_map]; exact hl, vs, _, rv, hobj⟩
      · rw [other b hb] at z; cases z
    · by_cases hb : b = a
      · exact hb
      · exact absurd (other b hb) z
end Mi

set_option maxRecDepth 100000
set_option maxHeartbeats 4000000
namespace Mi
open PySem PySem.Spec PyProof.Rows L2

/-! ### the facts of a table -/
theorem mem_look {β : Type} {x : Nat} {d : β} : ∀ {l : List (Nat × β)}, l.lookup x = some d → (x, d) ∈ l
  | [], h => by cases h
  | (y, e) :: l, h => by
    rw [List.lookup_cons] at h
    cases q : x == y with
    | true =>
      rw [q] at h
      cases h
      rw [beq_iff_eq.mp q]
      exact List.mem_cons_self
    | false =>
      rw [q] at h
      exact List.mem_cons_of_mem _ (mem_look h)
def faGlo : Nat × D → List He.Fa
  | (x, .int i) => [.int (nm x) i]
  | (x, .str s) => [.str (nm x) ⟨s.toArray⟩]
  | (x, .glo _) => [.glo (nm x)]
  | _ => []
def gloB : Nat × D → Bool
  | (_, .int _) => true
  | (_, .str _) => true
  | (x, .glo y) => decide (x = y)
  | _ => false
def faT (t : Tx) : List He.Fa := if t.f < 10000 then [.glo (nm t.f)] else if t.prp = true then [.cls (nm (t.f / 10000))] else if t.f % 10000 = 272 then [.glo (nm (t.f / 10000)), .mkr (nm (t.f / 10000))] else [.cls (nm (t.f / 10000)), .meth (nm (t.f / 10000)) (nm (t.f % 10000))]
def faFld (p : Nat × List Nat) : List He.Fa := .cls (nm p.1) :: p.2.map fun f => .noat (nm p.1) (nm f)
def fldB (p : Nat × List Nat) : Bool := p.2.all fun f => decide (f < 1104)
/-- what a law's proof hands in: its words, its iterators, its exceptions, its dicts -/
structure Ld where
  G : Gs
  T : List Tx
  it : List Itx := []
  xs : List Xcx := []
  ds : List Dcx := []
  pf : Str := ""
def faOf (L : Ld) : List He.Fa := L.T.flatMap faT ++ (L.G.no.map .free ++ (L.G.glo.flatMap faGlo ++ (L.G.fld.flatMap faFld ++ L.it.flatMap faItx)))
def hxOf (L : Ld) : Hx := ⟨faOf L, (L.T.filter fun t => !t.prp).map Tx.dD ++ L.it.map Itx.dD, L.T.filter Tx.prp, L.xs, L.G.exh, L.ds, L.pf⟩
def ldB (L : Ld) : Bool := L.G.glo.all gloB && (L.G.fld.all fldB && (L.it.all ckItx && (L.xs.all ckXcx && L.T.all (ckTx L.G))))
theorem fact_of {fa : List He.Fa} {fn : List He.DefD} {K : PySem.W.Frag} (c : He.SaysD fa fn K) {f : He.Fa} (h : f ∈ fa) : f.ok K = true := by
  obtain ⟨i, hi⟩ := List.mem_iff_getElem?.mp h
  exact c.fact i hi
theorem told_of {L : Ld} {P : Program} {w : World} {K : PySem.W.Frag} {mg : Str → Option Value} {h : Heap} (X : K.In h) (N : h.Ns mainGlobals mg) (c : SaysM (hxOf L) w K) (hf : L.G.fns = tabF L.T) (hi : L.G.itr = L.it.map fun t => (t.c, t.f)) (he : L.G.exc = L.xs.map fun t => (t.c, t.f)) (hdc : L.G.dic = L.ds.map fun t => (t.g, t.kvs))
    (hb : ldB L = true) (hpf : (P.main.file : Str) = L.pf) (hs : (P.main.scope.names.lookup ("super" : Str)).isSome = false) : Told P w L.G L.T K mg := by
  obtain ⟨hg, hb⟩ := ba2 hb
  obtain ⟨hfl, hb⟩ := ba2 hb
  obtain ⟨hit, hb⟩ := ba2 hb
  obtain ⟨hx, hc⟩ := ba2 hb
  obtain ⟨x1, xb⟩ := ba2 c.b
  obtain ⟨x2, xb⟩ := ba2 xb
  obtain ⟨x3, xb⟩ := ba2 xb
  obtain ⟨x4, x5⟩ := ba2 xb
  have cd := c.d
  have inT : ∀ t ∈ L.T, ∀ f ∈ faT t, f.ok K = true := fun t ht f hf => fact_of cd (List.mem_append_left _ (List.mem_flatMap.mpr ⟨t, ht, hf⟩))
  have prpT : ∀ t ∈ L.T, t.prp = true → prpB K (He.ga K (nm (t.f / 10000))) (nm (mN t.f)) = true ∧ okA K t.dD (fnA K t.f) = true := fun t ht hp => ba2 (List.all_eq_true.mp x2 t (List.mem_filter.mpr ⟨ht, hp⟩))
  have def_ : ∀ t ∈ L.T, ∃ fd, FunD K t.nam t.qual (defArgs t.st) (defBody t.st) (defScope t.st) (t.d.dfl.map fun x => (dvOf x).v K) [] (fnA K t.f) fd := fun t ht => by
    have e : t.dD.dvs K = t.d.dfl.map fun x => (dvOf x).v K := by
      show (t.d.dfl.map dvOf).map (He.Dv.v K) = _
      rw [List.map_map]
      rfl
    cases hp : t.prp with
    | false =>
      have hm : t.dD ∈ (hxOf L).fn := List.mem_append_left _ (List.mem_map.mpr ⟨t, List.mem_filter.mpr ⟨ht, by rw [hp]; rfl⟩, rfl⟩)
      obtain ⟨i, hi⟩ := List.mem_iff_getElem?.mp hm
      obtain ⟨fd, F⟩ := cd.def_ i hi
      have F' : FunD K t.nam t.qual (defArgs t.st) (defBody t.st) (defScope t.st) (t.dD.dvs K) [] (He.fAd K t.at_) fd := F
      rw [e, t.fAd K hp] at F'
      exact ⟨fd, F'⟩
    | true =>
      obtain ⟨fd, F⟩ := funDA (c.pr (List.mem_filter.mpr ⟨ht, hp⟩)) (prpT t ht hp).2
      have F' : FunD K t.nam t.qual (defArgs t.st) (defBody t.st) (defScope t.st) (t.dD.dvs K) [] (fnA K t.f) fd := F
      rw [e] at F'
      exact ⟨fd, F'⟩
  refine ⟨hf, fun t ht => ⟨fun hl => ?_, fun hl h5 hm => ?_, fun hl hm => ?_, fun hl h5 => ?_⟩, def_, ⟨fun cl f hF => ?_⟩, fun x hx => He.free_ok X N (fact_of cd (List.mem_append_right _ (List.mem_append_left _ (List.mem_map.mpr ⟨x, hx, rfl⟩)))), fun x d hd => ?_, sys_of x1,
    fun base cl f hl => ?_, fun cl f hl => ?_, fun x l hl => ?_, fun x l hl => ?_⟩
  · obtain ⟨fd, F⟩ := def_ t ht
    have k := F.kp
    unfold fnA at k
    rw [if_pos hl] at k
    exact ⟨He.glo_ok X N (inT t ht (.glo (nm t.f)) (by unfold faT; rw [if_pos hl]; simp)), k⟩
  · have hn : ¬ t.f < 10000 := by omega
    have hp : t.prp = false := by unfold Tx.prp; simp; omega
    exact ⟨He.cls_ok (inT t ht (.cls (nm (t.f / 10000))) (by unfold faT; rw [if_neg hn, if_neg (by rw [hp]; decide), if_neg hm]; simp)), He.meth_ok (inT t ht (.meth (nm (t.f / 10000)) (nm (t.f % 10000))) (by unfold faT; rw [if_neg hn, if_neg (by rw [hp]; decide), if_neg hm]; simp))⟩
  · have hn : ¬ t.f < 10000 := by omega
    have hp : t.prp = false := by unfold Tx.prp; simp; omega
    refine ⟨He.glo_ok X N (inT t ht (.glo (nm (t.f / 10000))) (by unfold faT; rw [if_neg hn, if_neg (by rw [hp]; decide), if_pos hm]; simp)), ?_⟩
    rw [hm, nm272]
    exact He.mkr_ok (inT t ht (.mkr (nm (t.f / 10000))) (by unfold faT; rw [if_neg hn, if_neg (by rw [hp]; decide), if_pos hm]; simp))
  · have hn : ¬ t.f < 10000 := by omega
    have hp : t.prp = true := by unfold Tx.prp; simp; omega
    refine ⟨He.cls_ok (inT t ht (.cls (nm (t.f / 10000))) (by unfold faT; rw [if_neg hn, if_pos hp]; simp)), ?_⟩
    have q := prpB_ok (prpT t ht hp).1
    have em : mN t.f = t.f % 10000 - 5000 := by unfold mN; rw [if_neg (by omega)]
    have ea : fnA K t.f = pgA K (He.ga K (nm (t.f / 10000))) (nm (t.f % 10000 - 5000)) := by unfold fnA; rw [if_neg hn, if_neg (by omega)]
    rw [em] at q
    rw [ea]
    exact q
  · unfold Gs.F at hF
    cases e : L.G.fld.lookup cl with
    | none => rw [e] at hF; simp at hF
    | some fs =>
      rw [e] at hF
      have hm : (cl, fs) ∈ L.G.fld := mem_look e
      have hf : f ∈ fs := by simpa using hF
      have mem : ∀ g, g ∈ faFld (cl, fs) → g.ok K = true := fun g hg => fact_of cd (List.mem_append_right _ (List.mem_append_right _ (List.mem_append_right _ (List.mem_append_left _ (List.mem_flatMap.mpr ⟨_, hm, hg⟩)))))
      have hb := List.all_eq_true.mp (show fs.all (fun f => decide (f < 1104)) = true from List.all_eq_true.mp hfl _ hm) f hf
      exact ⟨of_decide_eq_true hb, He.cls_ok (mem (.cls (nm cl)) (by simp [faFld])), He.noat_ok (mem (.noat (nm cl) (nm f)) (List.mem_cons_of_mem _ (List.mem_map.mpr ⟨f, hf, rfl⟩)))⟩
  · have hm : (x, d) ∈ L.G.glo := mem_look hd
    have hb := List.all_eq_true.mp hg _ hm
    have mem : ∀ f, f ∈ faGlo (x, d) → f.ok K = true := fun f hf => fact_of cd (List.mem_append_right _ (List.mem_append_right _ (List.mem_append_left _ (List.mem_flatMap.mpr ⟨_, hm, hf⟩))))
    cases d with
    | int i =>
      obtain ⟨t, e⟩ := He.int_ok X N (mem (.int (nm x) i) (by simp [faGlo]))
      exact ⟨_, .int i, e, ⟨t, rfl⟩, fun _ _ => rfl⟩
    | str s =>
      obtain ⟨t, e⟩ := He.str_ok X N (mem (.str (nm x) ⟨s.toArray⟩) (by simp [faGlo]))
      exact ⟨_, .str ⟨s.toArray⟩, e, ⟨t, rfl⟩, fun _ _ => rfl⟩
    | glo y =>
      have e : x = y := of_decide_eq_true hb
      subst e
      exact ⟨_, .ref (He.ga K (nm x)), He.glo_ok X N (mem (.glo (nm x)) (by simp [faGlo])), rfl, fun _ _ => rfl⟩
    | _ => cases hb
  · rw [hi] at hl
    obtain ⟨t, ht, e⟩ := List.mem_map.mp (mem_look hl)
    cases e
    have mem : ∀ f ∈ faItx t, f.ok K = true := fun f hf => fact_of cd (List.mem_append_right _ (List.mem_append_right _ (List.mem_append_right _ (List.mem_append_right _ (List.mem_flatMap.mpr ⟨t, ht, hf⟩)))))
    have hm : t.dD ∈ (hxOf L).fn := List.mem_append_right _ (List.mem_map.mpr ⟨t, ht, rfl⟩)
    obtain ⟨i, hi⟩ := List.mem_iff_getElem?.mp hm
    exact itx_ok (List.all_eq_true.mp hit t ht) mem (He.free_ok X N (mem (.free "iter") (by simp [faItx]))) (cd.def_ i hi)
  · rw [he] at hl
    obtain ⟨t, ht, e⟩ := List.mem_map.mp (mem_look hl)
    cases e
    exact xcx_ok X N (List.all_eq_true.mp hx t ht) (List.all_eq_true.mp x3 t ht) (c.xc ht) hpf hs
  · have hm : (x, l) ∈ L.G.exh := mem_look hl
    rw [he]
    exact xh_ok X N (List.all_eq_true.mp x4 _ hm)
  · rw [hdc] at hl
    obtain ⟨t, ht, e⟩ := List.mem_map.mp (mem_look hl)
    cases e
    exact dcx_ok X N (List.all_eq_true.mp x5 t ht) (c.dt ht)
/-- a law over a table: what is left is the small language's run -/
theorem law_tab {l : PySem.W.OpenLaw} {n k : Nat} {q : Program} {loose : List Str} {XP : (Str → Option Value) → Heap → Prop} {d : DefRec} {L : Ld} {as : List Addr} {lw : Nat} {x : Str}
    (hn : l.most = some n) (hn2 : n ≤ sizeLine) (hdf : d.params.defaults = []) (hr : RoomG (2 * k) callerA) (hl4 : lw < 10000) (hd : d.name = ("law" : Str)) (hlw : nm lw = ("law" : Str)) (hl : L.G.fns.lookup lw = some [x]) (hf : L.G.fns = tabF L.T) (hi : L.G.itr = L.it.map fun t => (t.c, t.f)) (he : L.G.exc = L.xs.map fun t => (t.c, t.f)) (hdc : L.G.dic = L.ds.map fun t => (t.g, t.kvs))
    (hb : ldB L = true) (hpf : (l.prog.main.file : Str) = L.pf) (hs : (l.prog.main.scope.names.lookup ("super" : Str)).isSome = false)
    (run : ∀ ns : List Int, ns.length ≤ n → ∃ st, callN L.G (tabD L.T) k lw [.fro (ns.map D.int)] [] = .ok (.bl true) st) :
    PySem.W.WalkO q loose XP (hookM as (hxOf L)).says l.row.toRowW d [] (fun f vs => PySem.call f vs) := by
  refine lawG (ps := [x]) hn hn2 hdf hr fun w mg fa h Y N hmg => ?_
  obtain ⟨K, KX, c⟩ := Y
  refine ⟨K, callN L.G (tabD L.T) k lw, KX, run, fun base Kb Nb => ?_⟩
  obtain ⟨a, F⟩ := fns_ok (P := l.prog) (w := w) (base := base) (told_of KX N c hf hi he hdc hb hpf hs) (ba2 (ba2 (ba2 (ba2 hb).2).2).2).2 k lw [x] hl
  unfold fnA at F
  rw [if_pos hl4] at F
  have e1 := (a.glo hl4).1
  rw [hd, ← hlw] at hmg
  rw [hmg] at e1
  cases e1
  exact F
end Mi

set_option maxRecDepth 100000
set_option maxHeartbeats 0
namespace K06
open PySem PySem.Spec PyProof.Rows L2 Mi
def top (i : Nat) : Stmt := PySem.Challenge.pw_handkept_k06_bounds_of_programs.main.body.getD i (.Pass ⟨0, 0, 0, 0⟩)
def bodyOf : Stmt → List Stmt
  | .ClassDef (body := b) .. => b
  | _ => []
def topM (i j : Nat) : Stmt := (bodyOf (top i)).getD j (.Pass ⟨0, 0, 0, 0⟩)
def lcisword1e : E := (.cmp .inn (.var 1) (.glo 114))
def lcisword1 : E := .lc .seq [1] false [("sign", 1)] (.cons (.var 0) .nil) .nil lcisword1e
def disword : Df := ⟨["value"], ["value", "sign"], (.seq (.ite (.or (.not (.bcall .isi (.cons (.var 0) (.cons (.ty 3) .nil)))) (.not (.chain .le .le (.int 1) (.bcall .len (.cons (.var 0) .nil)) (.glo 139)))) (.seq (.ret (.bool false)) .nil) .nil) (.seq (.ret (.bcall .all (.cons lcisword1 .nil))) .nil)), false, []⟩
def dwordsin : Df := ⟨["line"], ["line", "rest", "blanks", "words"], (.seq (.set 1 (.bm .lstrip (.var 0) (.cons (.glo 19) .nil))) (.seq (.par [2, 3] (.cons (.bin .sub (.bcall .len (.cons (.var 0) .nil)) (.bcall .len (.cons (.var 1) .nil))) (.cons (.bcall .tuple (.cons (.bm .split (.var 1) (.cons (.glo 19) .nil)) .nil)) .nil))) (.seq (.ret (.ite (.or (.cmp .inn (.str []) (.var 3)) (.cmp .ne (.bin .mod (.var 2) (.glo 216)) (.int 0))) (.tup (.cons (.neg (.int 1)) (.cons (.tup .nil) .nil))) (.tup (.cons (.bin .div (.var 2) (.glo 216)) (.cons (.var 3) .nil))))) .nil))), false, []⟩
def dfigurein : Df := ⟨["word", "many"], ["word", "many"], (.seq (.ite (.or (.cmp .ne (.bcall .len (.cons (.var 0) .nil)) (.int 1)) (.or (.cmp .notin (.var 0) (.glo 78)) (.cmp .ge (.bm .sindex (.glo 78) (.cons (.var 0) .nil)) (.var 1)))) (.seq (.ret .non) .nil) .nil) (.seq (.ret (.bm .sindex (.glo 78) (.cons (.var 0) .nil))) .nil)), false, []⟩
def lcLinesXinit1e : E := (.call 1091 (.cons (.var 2) .nil))
def lcLinesXinit1 : E := .lc .seq [2] false [("row", 2)] (.cons (.var 1) .nil) .nil lcLinesXinit1e
def dLinesXinit : Df := ⟨["self", "rows"], ["self", "rows", "row"], (.seq (.setFld 932 (.var 0) lcLinesXinit1) (.seq (.setFld 910 (.var 0) (.int 0)) .nil)), false, []⟩
def dLinesXat : Df := ⟨["self", "deep"], ["self", "deep"], (.seq (.ite (.and (.cmp .lt (.attr 910 (.var 0)) (.bcall .len (.cons (.attr 932 (.var 0)) .nil))) (.cmp .eq (.idx (.idx (.attr 932 (.var 0)) (.attr 910 (.var 0))) (.int 0)) (.var 1))) (.seq (.ret (.idx (.idx (.attr 932 (.var 0)) (.attr 910 (.var 0))) (.int 1))) .nil) .nil) (.seq (.ret (.tup .nil)) .nil)), false, []⟩
def dLinesXbegins : Df := ⟨["self", "deep", "heads"], ["self", "deep", "heads", "words"], (.seq (.set 3 (.meth 668 (.var 0) (.cons (.var 1) .nil))) (.seq (.ret (.and (.cmp .ne (.var 3) (.tup .nil)) (.cmp .inn (.idx (.var 3) (.int 0)) (.var 2)))) .nil)), true, []⟩
def dLinesXplace : Df := ⟨["self"], ["self"], (.seq (.ret (.bin .add (.attr 910 (.var 0)) (.int 1))) .nil), false, []⟩
def dLinesXneed : Df := ⟨["self", "is_right"], ["self", "is_right"], (.seq (.ite (.not (.var 1)) (.seq (.raise 36 (.meth 967 (.var 0) .nil)) .nil) .nil) .nil), false, []⟩
def dLinesXtake : Df := ⟨["self", "is_right"], ["self", "is_right"], (.seq (.expr (.meth 851 (.var 0) (.cons (.var 1) .nil))) (.seq (.augFld 910 (.var 0) (.int 1)) .nil)), false, []⟩
def dLinesXareover : Df := ⟨["self"], ["self"], (.seq (.ret (.cmp .eq (.attr 910 (.var 0)) (.bcall .len (.cons (.attr 932 (.var 0)) .nil)))) .nil), false, []⟩
def dStatementXinit : Df := ⟨["self", "word", "place"], ["self", "word", "place"], (.seq (.setFld 954 (.var 0) (.var 1)) (.seq (.setFld 900 (.var 0) (.var 2)) (.seq (.setFld 895 (.var 0) .non) (.seq (.setFld 885 (.var 0) (.str [])) (.seq (.setFld 947 (.var 0) (.tup .nil)) (.seq (.setFld 871 (.var 0) .non) (.seq (.setFld 956 (.var 0) .non) (.seq (.setFld 943 (.var 0) .non) (.seq (.setFld 880 (.var 0) .non) (.seq (.setFld 937 (.var 0) .non) .nil)))))))))), false, []⟩
def dStatementXwriting : Df := ⟨["self", "label", "home", "tokens"], ["self", "label", "home", "tokens"], (.seq (.asgG (.cons (.attr 895 (.var 0)) (.cons (.attr 885 (.var 0)) (.cons (.attr 947 (.var 0)) .nil))) (.tup (.cons (.var 1) (.cons (.var 2) (.cons (.var 3) .nil))))) (.seq (.ret (.var 0)) .nil)), false, []⟩
def dStatementXsetting : Df := ⟨["self", "cell", "worth"], ["self", "cell", "worth"], (.seq (.asgG (.cons (.attr 871 (.var 0)) (.cons (.attr 956 (.var 0)) .nil)) (.tup (.cons (.var 1) (.cons (.var 2) .nil)))) (.seq (.ret (.var 0)) .nil)), false, []⟩
def dStatementXtesting : Df := ⟨["self", "test", "first", "second"], ["self", "test", "first", "second"], (.seq (.asgG (.cons (.attr 943 (.var 0)) (.cons (.attr 880 (.var 0)) (.cons (.attr 937 (.var 0)) .nil))) (.tup (.cons (.var 1) (.cons (.var 2) (.cons (.var 3) .nil))))) (.seq (.ret (.var 0)) .nil)), false, []⟩
def dBlockXinit : Df := ⟨["self", "statements"], ["self", "statements"], (.seq (.setFld 941 (.var 0) (.bcall .tuple (.cons (.var 1) .nil))) .nil), false, []⟩
def dPassXinit : Df := ⟨["self", "cells"], ["self", "cells"], (.seq (.setFld 872 (.var 0) (.var 1)) (.seq (.setFld 867 (.var 0) .non) (.seq (.setFld 878 (.var 0) .non) (.seq (.setFld 916 (.var 0) .ndct) (.seq (.setFld 873 (.var 0) .ndct) .nil))))), false, []⟩
def dPlanXinit : Df := ⟨["self", "rows"], ["self", "rows"], (.seq (.setFld 901 (.var 0) (.var 1)) (.seq (.setFld 893 (.var 0) (.tup .nil)) (.seq (.setFld 874 (.var 0) .ndct) (.seq (.setFld 931 (.var 0) .ndct) (.seq (.setFld 920 (.var 0) (.tup .nil)) (.seq (.setFld 896 (.var 0) .ndct) (.seq (.setFld 955 (.var 0) (.tup .nil)) .nil))))))), false, []⟩
def lpallstatements1b : S := (.seq (.expr (.bm .append (.var 1) (.cons (.var 2) .nil))) (.seq (.expr (.bm .extend (.var 1) (.cons (.call 649 (.cons (.attr 880 (.var 2)) .nil)) .nil))) (.seq (.expr (.bm .extend (.var 1) (.cons (.call 649 (.cons (.attr 937 (.var 2)) .nil)) .nil))) .nil)))
def lpallstatements1 : S := .loop .own [2] false (.cons (.ite (.notn (.var 0)) (.var 0) (.tup .nil)) .nil) lpallstatements1b
def dallstatements : Df := ⟨["block"], ["block", "found", "statement"], (.seq (.set 1 (.lst true .nil)) (.seq lpallstatements1 (.seq (.ret (.var 1)) .nil))), false, []⟩
def lchandlersof1e : E := (.var 4)
def lchandlersof1l : E := .lc .seq [4] false [("row", 4)] (.cons (.var 1) .nil) (.cons (.notn (.idx (.var 4) (.int 2))) .nil) lchandlersof1e
def lchandlersof1 : E := .lk (.var 1) lchandlersof1l
def lchandlersof2e : E := (.tup (.cons (.var 2) (.cons (.var 5) (.cons (.var 6) .nil))))
def lchandlersof2l : E := .lc .items [5, 6] true [("kind", 5), ("block", 6)] (.cons (.var 3) .nil) .nil lchandlersof2e
def lchandlersof2 : E := .lk (.var 3) lchandlersof2l
def lphandlersof3b : S := (.seq (.expr (.bm .extend (.var 1) (.cons lchandlersof2 .nil))) .nil)
def lphandlersof3 : S := .loop .seq [2, 3] true (.cons (.tup (.cons (.tup (.cons (.glo 167) (.cons (.attr 916 (.var 0)) .nil))) (.cons (.tup (.cons (.glo 46) (.cons (.attr 873 (.var 0)) .nil))) .nil))) .nil) lphandlersof3b
def dhandlersof : Df := ⟨["one_pass"], ["one_pass", "found", "word", "blocks", "row", "kind", "block"], (.seq (.set 1 (.lst true (.cons (.tup (.cons (.glo 13) (.cons (.str []) (.cons (.attr 867 (.var 0)) .nil)))) (.cons (.tup (.cons (.glo 69) (.cons (.str []) (.cons (.attr 878 (.var 0)) .nil)))) .nil)))) (.seq lphandlersof3 (.seq (.ret lchandlersof1) .nil))), false, []⟩
def dcwordstold1 : E := .dc false .seq [7] false [("token", 7)] (.cons (.attr 947 (.var 6)) .nil) (.cons (.cmp .eq (.idx (.var 7) (.int 0)) (.glo 257)) .nil) (.idx (.var 7) (.int 1)) (.bool true)
def lpwordstold2b : S := (.seq (.expr (.bm .update (.var 1) (.cons dcwordstold1 .nil))) (.seq (.ite (.and (.notn (.attr 943 (.var 6))) (.cmp .eq (.idx (.attr 943 (.var 6)) (.int 0)) (.glo 193))) (.seq (.setItem (.var 1) (.idx (.attr 943 (.var 6)) (.int 3)) (.bool true)) .nil) .nil) .nil))
def lpwordstold2 : S := .loopL 1000000 [6] false (.call 649 (.cons (.var 5) .nil)) lpwordstold2b
def lpwordstold3b : S := (.seq lpwordstold2 .nil)
def lpwordstold3 : S := .loop .seq [3, 4, 5] true (.cons (.call 745 (.cons (.var 2) .nil)) .nil) lpwordstold3b
def lpwordstold4b : S := (.seq lpwordstold3 .nil)
def lpwordstold4 : S := .loop .seq [2] false (.cons (.attr 920 (.var 0)) .nil) lpwordstold4b
def dwordstold : Df := ⟨["plan"], ["plan", "found", "one_pass", "word", "kind", "block", "statement", "token"], (.seq (.set 1 .ndct) (.seq lpwordstold4 (.seq (.ret (.bcall .tuple (.cons (.bcall .sortD (.cons (.var 1) .nil)) .nil))) .nil))), false, []⟩
def dScopeXinit : Df := ⟨["self", "plan", "cells", "home"], ["self", "plan", "cells", "home"], (.seq (.setFld 924 (.var 0) (.var 1)) (.seq (.setFld 872 (.var 0) (.bcall .dict (.cons (.var 2) .nil))) (.seq (.setFld 885 (.var 0) (.var 3)) (.seq (.setFld 913 (.var 0) (.bm .get (.attr 874 (.var 1)) (.cons (.var 3) (.cons (.tup .nil) .nil)))) .nil)))), false, []⟩
def dScopeXrefin : Df := ⟨["self", "word"], ["self", "word", "kind", "rest"], (.seq (.asgS 2 3 (.bm .split (.var 1) (.cons (.glo 64) .nil))) (.seq (.ite (.or (.cmp .ne (.bcall .len (.cons (.var 3) .nil)) (.int 1)) (.or (.cmp .notin (.var 2) (.attr 913 (.var 0))) (.cmp .notin (.idx (.var 3) (.int 0)) (.get (.attr 931 (.attr 924 (.var 0))) (.var 2))))) (.seq (.ret .non) .nil) .nil) (.seq (.ret (.tup (.cons (.glo 193) (.cons (.var 2) (.cons (.idx (.var 3) (.int 0)) .nil))))) .nil))), false, []⟩
def dScopeXtokenin : Df := ⟨["self", "word"], ["self", "word"], (.seq (.ret (.ite (.call 799 (.cons (.var 1) .nil)) (.tup (.cons (.glo 257) (.cons (.var 1) .nil))) (.meth 986 (.var 0) (.cons (.var 1) .nil)))) .nil), false, []⟩
def lcScopeXtokensin1e : E := (.meth 1054 (.var 0) (.cons (.var 3) .nil))
def lcScopeXtokensin1 : E := .lc .seq [3] false [("word", 3)] (.cons (.var 1) .nil) .nil lcScopeXtokensin1e
def dScopeXtokensin : Df := ⟨["self", "words"], ["self", "words", "found", "word"], (.seq (.set 2 lcScopeXtokensin1) (.seq (.ret (.ite (.or (.cmp .inn .non (.var 2)) (.not (.chain .le .le (.int 1) (.bcall .len (.cons (.var 2) .nil)) (.glo 151)))) .non (.bcall .tuple (.cons (.var 2) .nil)))) .nil)), false, []⟩
def dScopeXhomein : Df := ⟨["self", "words"], ["self", "words"], (.seq (.ite (.cmp .eq (.idx (.var 1) (.int 0)) (.glo 118)) (.seq (.ret (.attr 885 (.var 0))) .nil) .nil) (.seq (.ite (.cmp .eq (.sl (.var 1) (.cons (.int 2) .nil) (.cons (.int 3) .nil)) (.tup (.cons (.glo 157) .nil))) (.seq (.ret (.str [])) .nil) .nil) (.seq (.ret (.ite (.and (.cmp .gt (.bcall .len (.cons (.var 1) .nil)) (.int 2)) (.cmp .inn (.idx (.var 1) (.int 2)) (.attr 913 (.var 0)))) (.idx (.var 1) (.int 2)) .non)) .nil))), false, []⟩
def dScopeXwritingin : Df := ⟨["self", "words", "place"], ["self", "words", "place", "rest", "home", "tokens"], (.seq (.set 3 (.ite (.cmp .eq (.idx (.var 1) (.int 0)) (.glo 118)) (.sl (.var 1) (.cons (.int 2) .nil) .nil) (.sl (.var 1) (.cons (.int 3) .nil) .nil))) (.seq (.par [4, 5] (.cons (.meth 749 (.var 0) (.cons (.var 1) .nil)) (.cons (.meth 1055 (.var 0) (.cons (.var 3) .nil)) .nil))) (.seq (.ite (.or (.isn (.var 4)) (.or (.isn (.var 5)) (.or (.not (.call 799 (.cons (.idx (.var 1) (.int 1)) .nil))) (.cmp .inn (.idx (.var 1) (.int 1)) (.attr 896 (.attr 924 (.var 0))))))) (.seq (.ret .non) .nil) .nil) (.seq (.ret (.meth 1099 (.make 226 (.cons (.idx (.var 1) (.int 0)) (.cons (.var 2) .nil))) (.cons (.idx (.var 1) (.int 1)) (.cons (.var 4) (.cons (.var 5) .nil))))) .nil)))), false, []⟩
def dScopeXsettingin : Df := ⟨["self", "words", "place"], ["self", "words", "place", "worth"], (.seq (.ite (.or (.cmp .ne (.bcall .len (.cons (.var 1) .nil)) (.int 3)) (.cmp .notin (.idx (.var 1) (.int 1)) (.attr 872 (.var 0)))) (.seq (.ret .non) .nil) .nil) (.seq (.set 3 (.call 725 (.cons (.idx (.var 1) (.int 2)) (.cons (.get (.attr 872 (.var 0)) (.idx (.var 1) (.int 1))) .nil)))) (.seq (.ret (.ite (.isn (.var 3)) .non (.meth 1004 (.make 226 (.cons (.glo 204) (.cons (.var 2) .nil))) (.cons (.idx (.var 1) (.int 1)) (.cons (.var 3) .nil))))) .nil))), false, []⟩
def dScopeXsimplein : Df := ⟨["self", "words", "place"], ["self", "words", "place"], (.seq (.ite (.and (.cmp .inn (.idx (.var 1) (.int 0)) (.tup (.cons (.glo 118) (.cons (.glo 94) .nil)))) (.cmp .gt (.bcall .len (.cons (.var 1) .nil)) (.int 2))) (.seq (.ret (.meth 1100 (.var 0) (.cons (.var 1) (.cons (.var 2) .nil)))) .nil) .nil) (.seq (.ret (.ite (.cmp .eq (.idx (.var 1) (.int 0)) (.glo 204)) (.meth 1005 (.var 0) (.cons (.var 1) (.cons (.var 2) .nil))) .non)) .nil)), false, []⟩
def dScopeXtestin : Df := ⟨["self", "words"], ["self", "words", "ref", "worth"], (.seq (.ite (.cmp .ne (.bcall .len (.cons (.var 1) .nil)) (.int 4)) (.seq (.ret .non) .nil) .nil) (.seq (.ite (.and (.cmp .eq (.idx (.var 1) (.int 2)) (.glo 70)) (.cmp .inn (.idx (.var 1) (.int 1)) (.attr 872 (.var 0)))) (.seq (.set 3 (.call 725 (.cons (.idx (.var 1) (.int 3)) (.cons (.get (.attr 872 (.var 0)) (.idx (.var 1) (.int 1))) .nil)))) (.seq (.ret (.ite (.isn (.var 3)) .non (.tup (.cons (.glo 41) (.cons (.idx (.var 1) (.int 1)) (.cons (.var 3) .nil)))))) .nil)) .nil) (.seq (.set 2 (.meth 986 (.var 0) (.cons (.idx (.var 1) (.int 1)) .nil))) (.seq (.ret (.ite (.and (.cmp .eq (.idx (.var 1) (.int 2)) (.glo 101)) (.and (.notn (.var 2)) (.call 799 (.cons (.idx (.var 1) (.int 3)) .nil)))) (.tups (.star (.var 2) (.cons (.idx (.var 1) (.int 3)) .nil))) .non)) .nil)))), false, []⟩
def dBlockReaderXinit : Df := ⟨["self", "rows", "scope", "number"], ["self", "rows", "scope", "number"], (.seq (.setFld 932 (.var 0) (.var 1)) (.seq (.setFld 936 (.var 0) (.var 2)) (.seq (.setFld 911 (.var 0) (.var 3)) .nil))), false, []⟩
def dBlockReaderXblock : Df := ⟨["self", "deep", "nested"], ["self", "deep", "nested", "found"], (.seq (.set 3 (.lst true .nil)) (.seq (.whl 1000000 (.and (.cmp .lt (.bcall .len (.cons (.var 3) .nil)) (.glo 150)) (.cmp .ne (.meth 668 (.attr 932 (.var 0)) (.cons (.var 1) .nil)) (.tup .nil))) (.seq (.expr (.bm .append (.var 3) (.cons (.meth 1026 (.var 0) (.cons (.var 1) (.cons (.var 2) .nil))) .nil))) .nil)) (.seq (.expr (.meth 851 (.attr 932 (.var 0)) (.cons (.cmp .neNil (.var 3) (.lst false .nil)) .nil))) (.seq (.ret (.make 39 (.cons (.var 3) .nil))) .nil)))), false, [.int 0]⟩
def dBlockReaderXstatement : Df := ⟨["self", "deep", "nested"], ["self", "deep", "nested", "rows", "found", "words", "place"], (.seq (.set 3 (.attr 932 (.var 0))) (.seq (.par [5, 6] (.cons (.meth 668 (.var 3) (.cons (.var 1) .nil)) (.cons (.meth 967 (.var 3) .nil) .nil))) (.seq (.ite (.cmp .eq (.idx (.var 5) (.int 0)) (.glo 96)) (.seq (.ret (.meth 750 (.var 0) (.cons (.var 1) (.cons (.var 2) .nil)))) .nil) .nil) (.seq (.set 4 (.meth 1022 (.attr 936 (.var 0)) (.cons (.var 5) (.cons (.var 6) .nil)))) (.seq (.expr (.meth 1039 (.var 3) (.cons (.notn (.var 4)) .nil))) (.seq (.ite (.notn (.attr 895 (.var 4))) (.seq (.setItem (.attr 896 (.attr 924 (.attr 936 (.var 0)))) (.attr 895 (.var 4)) (.tup (.cons (.attr 911 (.var 0)) (.cons (.var 4) .nil)))) .nil) .nil) (.seq (.ret (.var 4)) .nil))))))), false, []⟩
def dBlockReaderXifread : Df := ⟨["self", "deep", "nested"], ["self", "deep", "nested", "rows", "test", "place", "first", "second"], (.seq (.set 3 (.attr 932 (.var 0))) (.seq (.par [4, 5] (.cons (.meth 1046 (.attr 936 (.var 0)) (.cons (.meth 668 (.var 3) (.cons (.var 1) .nil)) .nil)) (.cons (.meth 967 (.var 3) .nil) .nil))) (.seq (.expr (.meth 1039 (.var 3) (.cons (.and (.notn (.var 4)) (.cmp .lt (.var 2) (.glo 141))) .nil))) (.seq (.par [6, 7] (.cons (.meth 672 (.var 0) (.cons (.bin .add (.var 1) (.int 1)) (.cons (.bin .add (.var 2) (.int 1)) .nil))) (.cons .non .nil))) (.seq (.ite (.cmp .eq (.meth 668 (.var 3) (.cons (.var 1) .nil)) (.tup (.cons (.glo 68) .nil))) (.seq (.expr (.meth 1039 (.var 3) (.cons (.bool true) .nil))) (.seq (.set 7 (.meth 672 (.var 0) (.cons (.bin .add (.var 1) (.int 1)) (.cons (.bin .add (.var 2) (.int 1)) .nil)))) .nil)) .nil) (.seq (.ret (.meth 1047 (.make 226 (.cons (.glo 96) (.cons (.var 5) .nil))) (.cons (.var 4) (.cons (.var 6) (.cons (.var 7) .nil))))) .nil)))))), false, []⟩
def dPlanReaderXinit : Df := ⟨["self", "rows"], ["self", "rows"], (.seq (.setFld 932 (.var 0) (.make 123 (.cons (.var 1) .nil))) (.seq (.setFld 924 (.var 0) (.make 187 (.cons (.var 1) .nil))) .nil)), false, []⟩
def dPlanReaderXread : Df := ⟨["self"], ["self", "rows", "plan"], (.seq (.par [1, 2] (.cons (.attr 932 (.var 0)) (.cons (.attr 924 (.var 0)) .nil))) (.seq (.whl 1000000 (.and (.cmp .lt (.bcall .len (.cons (.attr 893 (.var 2)) .nil)) (.glo 138)) (.meth 670 (.var 1) (.cons (.glo 229) (.cons (.glo 111) .nil)))) (.seq (.expr (.meth 981 (.var 0) .nil)) .nil)) (.seq (.expr (.meth 851 (.var 1) (.cons (.cmp .ne (.attr 893 (.var 2)) (.tup .nil)) .nil))) (.seq (.whl 1000000 (.and (.cmp .lt (.bcall .len (.cons (.attr 920 (.var 2)) .nil)) (.glo 144)) (.cmp .eq (.meth 668 (.var 1) (.cons (.glo 229) .nil)) (.tup (.cons (.glo 180) .nil)))) (.seq (.expr (.meth 1039 (.var 1) (.cons (.bool true) .nil))) (.seq (.setFld 920 (.var 2) (.tups (.star (.attr 920 (.var 2)) (.cons (.meth 961 (.var 0) (.cons (.bcall .len (.cons (.attr 920 (.var 2)) .nil)) .nil)) .nil)))) .nil))) (.seq (.expr (.meth 851 (.var 1) (.cons (.and (.cmp .ne (.attr 920 (.var 2)) (.tup .nil)) (.meth 658 (.var 1) .nil)) .nil))) (.seq (.setFld 955 (.var 2) (.call 1094 (.cons (.var 2) .nil))) (.seq (.ret (.var 2)) .nil))))))), false, []⟩
def dPlanReaderXreadkind : Df := ⟨["self"], ["self", "fields", "rows", "plan", "words", "outer", "below"], (.seq (.par [2, 3] (.cons (.attr 932 (.var 0)) (.cons (.attr 924 (.var 0)) .nil))) (.seq (.par [4, 5] (.cons (.meth 668 (.var 2) (.cons (.glo 229) .nil)) (.cons (.str []) .nil))) (.seq (.expr (.meth 851 (.var 2) (.cons (.and (.cmp .inn (.bcall .len (.cons (.var 4) .nil)) (.tup (.cons (.int 2) (.cons (.int 4) .nil)))) (.and (.call 799 (.cons (.idx (.var 4) (.int 1)) .nil)) (.cmp .notin (.idx (.var 4) (.int 1)) (.attr 874 (.var 3))))) .nil))) (.seq (.ite (.cmp .eq (.bcall .len (.cons (.var 4) .nil)) (.int 4)) (.seq (.set 5 (.idx (.var 4) (.int 3))) (.seq (.expr (.meth 851 (.var 2) (.cons (.and (.cmp .eq (.idx (.var 4) (.int 2)) (.glo 99)) (.and (.cmp .inn (.var 5) (.attr 874 (.var 3))) (.cmp .lt (.bcall .len (.cons (.get (.attr 874 (.var 3)) (.var 5)) .nil)) (.glo 133)))) .nil))) .nil)) .nil) (.seq (.expr (.meth 1039 (.var 2) (.cons (.bool true) .nil))) (.seq (.set 1 (.tup .nil)) (.seq (.whl 1000000 (.and (.cmp .lt (.bcall .len (.cons (.var 1) .nil)) (.glo 135)) (.meth 670 (.var 2) (.cons (.glo 17) (.cons (.glo 77) .nil)))) (.seq (.set 6 (.meth 668 (.var 2) (.cons (.glo 17) .nil))) (.seq (.expr (.meth 1039 (.var 2) (.cons (.and (.cmp .eq (.bcall .len (.cons (.var 6) .nil)) (.int 2)) (.and (.call 799 (.cons (.idx (.var 6) (.int 1)) .nil)) (.cmp .notin (.idx (.var 6) (.int 1)) (.tups (.cons (.glo 106) (.star (.var 1) .nil)))))) .nil))) (.seq (.set 1 (.tups (.star (.var 1) (.cons (.idx (.var 6) (.int 1)) .nil)))) .nil)))) (.seq (.setFld 893 (.var 3) (.tups (.star (.attr 893 (.var 3)) (.cons (.tup (.cons (.idx (.var 4) (.int 1)) (.cons (.var 5) (.cons (.var 1) .nil)))) .nil)))) (.seq (.setItem (.attr 874 (.var 3)) (.idx (.var 4) (.int 1)) (.tups (.star (.bm .get (.attr 874 (.var 3)) (.cons (.var 5) (.cons (.tup .nil) .nil))) (.cons (.idx (.var 4) (.int 1)) .nil)))) (.seq (.setItem (.attr 931 (.var 3)) (.idx (.var 4) (.int 1)) (.tups (.cons (.glo 106) (.star (.var 1) .nil)))) .nil)))))))))), false, []⟩
def dPlanReaderXcellsread : Df := ⟨["self"], ["self", "rows", "found", "words"], (.seq (.par [1, 2] (.cons (.attr 932 (.var 0)) (.cons .ndct .nil))) (.seq (.whl 1000000 (.and (.cmp .lt (.bcall .len (.cons (.var 2) .nil)) (.glo 132)) (.meth 670 (.var 1) (.cons (.glo 17) (.cons (.glo 41) .nil)))) (.seq (.set 3 (.meth 668 (.var 1) (.cons (.glo 17) .nil))) (.seq (.expr (.meth 1039 (.var 1) (.cons (.and (.cmp .eq (.bcall .len (.cons (.var 3) .nil)) (.int 3)) (.and (.call 799 (.cons (.idx (.var 3) (.int 1)) .nil)) (.and (.cmp .notin (.idx (.var 3) (.int 1)) (.var 2)) (.gin 124 (.idx (.var 3) (.int 2)))))) .nil))) (.seq (.setItem (.var 2) (.idx (.var 3) (.int 1)) (.gget 124 (.idx (.var 3) (.int 2)))) .nil)))) (.seq (.ret (.tupIt (.var 2))) .nil))), false, []⟩
def lpPlanReaderXpassread1b : S := (.seq (.expr (.bm .extend (.var 2) (.cons (.lst true (.cons (.tup (.cons (.glo 167) (.cons (.var 5) .nil))) (.cons (.tup (.cons (.glo 46) (.cons (.var 5) .nil))) .nil))) .nil))) .nil)
def lpPlanReaderXpassread1 : S := .loop .seq [5, 6, 7] true (.cons (.attr 893 (.attr 924 (.var 0))) .nil) lpPlanReaderXpassread1b
def dPlanReaderXpassread : Df := ⟨["self", "number"], ["self", "number", "left", "rows", "found", "kind", "outer", "fields", "blocks", "word"], (.seq (.par [3, 4] (.cons (.attr 932 (.var 0)) (.cons (.make 184 (.cons (.meth 676 (.var 0) .nil) .nil)) .nil))) (.seq (.ite (.cmp .eq (.meth 668 (.var 3) (.cons (.glo 17) .nil)) (.tup (.cons (.glo 13) .nil))) (.seq (.setFld 867 (.var 4) (.meth 744 (.var 0) (.cons (.var 4) (.cons (.str []) (.cons (.var 1) .nil))))) .nil) .nil) (.seq (.set 2 (.lst true .nil)) (.seq lpPlanReaderXpassread1 (.seq (.whl 1000000 (.cmp .inn (.meth 668 (.var 3) (.cons (.glo 17) .nil)) (.var 2)) (.seq (.asg [9, 5] (.meth 668 (.var 3) (.cons (.glo 17) .nil))) (.seq (.set 2 (.sl (.var 2) (.cons (.bin .add (.bm .index (.var 2) (.cons (.tup (.cons (.var 9) (.cons (.var 5) .nil))) .nil)) (.int 1)) .nil) .nil)) (.seq (.set 8 (.ite (.cmp .eq (.var 9) (.glo 167)) (.attr 916 (.var 4)) (.attr 873 (.var 4)))) (.seq (.setItem (.var 8) (.var 5) (.meth 744 (.var 0) (.cons (.var 4) (.cons (.var 5) (.cons (.var 1) .nil))))) .nil))))) (.seq (.ite (.cmp .eq (.meth 668 (.var 3) (.cons (.glo 17) .nil)) (.tup (.cons (.glo 69) .nil))) (.seq (.setFld 878 (.var 4) (.meth 744 (.var 0) (.cons (.var 4) (.cons (.str []) (.cons (.var 1) .nil))))) .nil) .nil) (.seq (.ret (.var 4)) .nil))))))), false, []⟩
def dPlanReaderXhandler : Df := ⟨["self", "one_pass", "kind", "number"], ["self", "one_pass", "kind", "number", "scope"], (.seq (.expr (.meth 1039 (.attr 932 (.var 0)) (.cons (.bool true) .nil))) (.seq (.set 4 (.make 223 (.cons (.attr 924 (.var 0)) (.cons (.attr 872 (.var 1)) (.cons (.var 2) .nil))))) (.seq (.ret (.meth 672 (.make 40 (.cons (.attr 932 (.var 0)) (.cons (.var 4) (.cons (.var 3) .nil)))) (.cons (.glo 254) .nil))) .nil))), false, []⟩
def dreadplan : Df := ⟨["text"], ["text"], (.seq (.ite (.not (.bcall .isi (.cons (.var 0) (.cons (.ty 3) .nil)))) (.seq (.raise 36 (.int 0)) .nil) .nil) (.seq (.ret (.meth 979 (.make 188 (.cons (.bcall .tuple (.cons (.bm .split (.var 0) (.cons (.glo 72) .nil)) .nil)) .nil)) .nil)) .nil)), false, []⟩
def dProgramXinit : Df := ⟨["self", "text"], ["self", "text"], (.seq (.setFld 924 (.var 0) (.call 983 (.cons (.var 1) .nil))) (.seq (.setFld 944 (.var 0) (.var 1)) .nil)), false, []⟩
def dProgramXtext : Df := ⟨["self"], ["self"], (.seq (.ret (.attr 944 (.var 0))) .nil), false, []⟩
def dlawpot : Df := ⟨["_law_script", "_law_k"], ["_law_script", "_law_k", "_law_cell", "_law_own", "_law_mixed"], (.seq (.set 2 (.ite (.cmp .lt (.var 1) (.bcall .len (.cons (.var 0) .nil))) (.idx (.var 0) (.var 1)) (.bin .add (.bin .mul (.int 57) (.var 1)) (.int 27)))) (.seq (.set 3 (.bin .mul (.bin .mod (.bcall .int (.cons (.bcall .abs (.cons (.var 2) .nil)) .nil)) (.bin .pow (.bin .pow (.int 10) (.int 60)) (.int 5))) (.bcall .int (.cons (.cmp .ge (.bcall .abs (.cons (.var 2) .nil)) (.bin .pow (.int 10) (.int 18))) .nil)))) (.seq (.set 4 (.bin .add (.bin .add (.bin .mul (.bin .mod (.bcall .int (.cons (.var 2) .nil)) (.int 2305843009213693951)) (.int 70061)) (.bin .mul (.bin .mul (.int 7793) (.var 1)) (.var 1))) (.int 59))) (.seq (.ret (.lst true (.cons (.var 3) (.cons (.bin .mod (.bcall .int (.cons (.var 4) .nil)) (.int 2305843009213693921)) (.cons (.int 0) .nil))))) .nil)))), false, []⟩
def dlawtake : Df := ⟨["_law_pot_here", "_law_upto"], ["_law_pot_here", "_law_upto", "_law_prime", "_law_mixed", "_law_digit"], (.seq (.ite (.cmp .gt (.idx (.var 0) (.int 0)) (.int 0)) (.seq (.set 4 (.bin .mod (.bcall .int (.cons (.idx (.var 0) (.int 0)) .nil)) (.var 1))) (.seq (.setItem (.var 0) (.int 0) (.bin .div (.idx (.var 0) (.int 0)) (.var 1))) (.seq (.ret (.var 4)) .nil))) .nil) (.seq (.setItem (.var 0) (.int 2) (.bin .add (.idx (.var 0) (.int 2)) (.int 1))) (.seq (.set 2 (.idx (.lst false (.cons (.int 2147483647) (.cons (.int 2147483629) (.cons (.int 2147483587) (.cons (.int 2147483579) (.cons (.int 2147483563) .nil)))))) (.bin .mod (.bcall .int (.cons (.idx (.var 0) (.int 2)) .nil)) (.int 5)))) (.seq (.set 3 (.bin .mod (.bcall .int (.cons (.bin .pow (.bcall .int (.cons (.bin .add (.bin .add (.idx (.var 0) (.int 1)) (.bin .mul (.bin .mul (.int 99041) (.idx (.var 0) (.int 2))) (.idx (.var 0) (.int 2)))) (.int 37)) .nil)) (.int 3)) .nil)) (.var 2))) (.seq (.set 3 (.bin .mod (.bcall .int (.cons (.bin .mul (.var 3) (.bin .add (.bin .mod (.bcall .int (.cons (.var 3) .nil)) (.int 10007)) (.bin .mul (.int 83) (.idx (.var 0) (.int 2))))) .nil)) (.int 2305843009213693907))) (.seq (.ret (.bin .mod (.bcall .int (.cons (.bin .div (.var 3) (.int 103)) .nil)) (.var 1))) .nil)))))), false, []⟩
def dlawof : Df := ⟨["_law_pot_here", "_law_some"], ["_law_pot_here", "_law_some"], (.seq (.ret (.idx (.var 1) (.call 580 (.cons (.var 0) (.cons (.bcall .len (.cons (.var 1) .nil)) .nil))))) .nil), false, []⟩
def dlawcaught : Df := ⟨["_law_text"], ["_law_text", "_law_made", "error"], (.iso 0 [0] (.seq (.tryL 2 113 (.seq (.set 1 (.make 190 (.cons (.var 0) .nil))) .nil) 36 828) (.seq (.ret (.ite (.cmp .eq (.prop 1048 (.var 1)) (.var 0)) (.str [116, 111, 108, 100]) .non)) .nil))), false, []⟩
def lclawcases1e : E := (.bin .add (.bin .add (.str [32, 32, 32, 32, 108, 105, 110, 101, 32]) (.idx (.str [97, 98, 99, 100, 101, 102, 103]) (.var 12))) (.str [32, 120]))
def lclawcases1 : E := .lc .range1 [12] false [("_law_at", 12)] (.cons (.var 2) .nil) .nil lclawcases1e
def lplawcases2b : S := (.seq (.set 9 lclawcases1) (.seq (.expr (.bm .append (.var 4) (.cons (.tup (.cons (.bin .add (.lst false (.cons (.str [107, 105, 110, 100, 32, 107]) (.cons (.str [112, 97, 115, 115]) (.cons (.str [32, 32, 101, 110, 100]) .nil)))) (.var 9)) (.cons (.ite (.cmp .gt (.var 2) (.int 6)) (.int 10) .non) .nil))) .nil))) (.seq (.set 10 (.sl (.lst false (.cons (.str [105, 115]) (.cons (.str [105, 102]) (.cons (.str [120]) (.cons (.str [121]) (.cons (.str [120]) (.cons (.str [122]) (.cons (.str [107]) .nil)))))))) .nil (.cons (.var 2) .nil))) (.seq (.expr (.bm .append (.var 4) (.cons (.tup (.cons (.lst false (.cons (.str [107, 105, 110, 100, 32, 107]) (.cons (.str [112, 97, 115, 115]) (.cons (.str [32, 32, 111, 112, 101, 110, 32, 107]) (.cons (.bin .add (.str [32, 32, 32, 32, 108, 105, 110, 101, 32, 97, 32]) (.bm .join (.str [32]) (.cons (.var 10) .nil))) .nil))))) (.cons (.ite (.cmp .gt (.var 2) (.int 6)) (.int 4) .non) .nil))) .nil))) (.seq (.set 11 (.bin .add (.str [32, 32, 32, 32, 104, 101, 97, 100, 32, 97, 32, 107, 32]) (.bm .join (.str [32]) (.cons (.var 10) .nil)))) (.seq (.expr (.bm .append (.var 4) (.cons (.tup (.cons (.lst false (.cons (.str [107, 105, 110, 100, 32, 107]) (.cons (.str [112, 97, 115, 115]) (.cons (.str [32, 32, 99, 108, 111, 115, 101, 32, 107]) (.cons (.var 11) .nil))))) (.cons (.ite (.cmp .gt (.var 2) (.int 6)) (.int 4) .non) .nil))) .nil))) .nil))))))
def lplawcases2 : S := .loop .seq [2] false (.cons (.tup (.cons (.int 6) (.cons (.int 7) .nil))) .nil) lplawcases2b
def lclawcases3e : E := (.bin .add (.bin .add (.str [32, 32, 99, 101, 108, 108, 32]) (.idx (.str [109, 110, 111]) (.var 12))) (.str [32, 50]))
def lclawcases3 : E := .lc .range1 [12] false [("_law_at", 12)] (.cons (.var 2) .nil) .nil lclawcases3e
def lclawcases4e : E := (.bin .add (.str [32, 32, 102, 105, 101, 108, 100, 32]) (.idx (.str [102, 103, 104]) (.var 12)))
def lclawcases4 : E := .lc .range1 [12] false [("_law_at", 12)] (.cons (.var 2) .nil) .nil lclawcases4e
def lplawcases5b : S := (.seq (.set 6 lclawcases4) (.seq (.expr (.bm .append (.var 4) (.cons (.tup (.cons (.bin .add (.bin .add (.lst false (.cons (.bin .add (.str [107, 105, 110, 100, 32]) (.var 3)) .nil)) (.var 6)) (.var 1)) (.cons (.ite (.cmp .gt (.var 2) (.int 2)) (.int 4) .non) .nil))) .nil))) (.seq (.set 7 (.bin .mul (.lst false (.cons (.str [112, 97, 115, 115]) .nil)) (.var 2))) (.seq (.expr (.bm .append (.var 4) (.cons (.tup (.cons (.bin .add (.lst false (.cons (.bin .add (.str [107, 105, 110, 100, 32]) (.var 3)) .nil)) (.var 7)) (.cons (.ite (.cmp .gt (.var 2) (.int 2)) (.int 4) .non) .nil))) .nil))) (.seq (.set 8 lclawcases3) (.seq (.expr (.bm .append (.var 4) (.cons (.tup (.cons (.bin .add (.lst false (.cons (.bin .add (.str [107, 105, 110, 100, 32]) (.var 3)) (.cons (.str [112, 97, 115, 115]) .nil))) (.var 8)) (.cons (.ite (.cmp .gt (.var 2) (.int 2)) (.int 5) .non) .nil))) .nil))) .nil))))))
def lplawcases5 : S := .loop .seq [2] false (.cons (.tup (.cons (.int 2) (.cons (.int 3) .nil))) .nil) lplawcases5b
def lclawcases6e : E := (.bin .add (.bin .add (.str [107, 105, 110, 100, 32, 107]) (.idx (.str [112, 113, 114, 115, 116]) (.var 12))) (.ite (.cmp .gt (.var 12) (.int 0)) (.bin .add (.str [32, 105, 110, 32, 107]) (.idx (.str [112, 113, 114, 115, 116]) (.bin .sub (.var 12) (.int 1)))) (.str [])))
def lclawcases6 : E := .lc .range1 [12] false [("_law_at", 12)] (.cons (.var 2) .nil) .nil lclawcases6e
def lplawcases7b : S := (.seq (.set 5 lclawcases6) (.seq (.expr (.bm .append (.var 4) (.cons (.tup (.cons (.bin .add (.var 5) (.var 1)) (.cons (.ite (.cmp .eq (.var 2) (.int 4)) (.int 4) .non) .nil))) .nil))) .nil))
def lplawcases7 : S := .loop .seq [2] false (.cons (.tup (.cons (.int 3) (.cons (.int 4) .nil))) .nil) lplawcases7b
def lclawcases8e : E := (.bin .add (.str [107, 105, 110, 100, 32, 107]) (.idx (.str [112, 113, 114, 115, 116]) (.var 12)))
def lclawcases8 : E := .lc .range1 [12] false [("_law_at", 12)] (.cons (.var 2) .nil) .nil lclawcases8e
def lplawcases9b : S := (.seq (.expr (.bm .append (.var 4) (.cons (.tup (.cons (.bin .add lclawcases8 (.var 1)) (.cons (.ite (.cmp .eq (.var 2) (.int 5)) (.int 5) .non) .nil))) .nil))) .nil)
def lplawcases9 : S := .loop .seq [2] false (.cons (.tup (.cons (.int 4) (.cons (.int 5) .nil))) .nil) lplawcases9b
def lclawcases10e : E := (.bin .add (.bin .add (.str [32, 32, 32, 32, 108, 105, 110, 101, 32]) (.idx (.str [97, 98, 99, 100, 101, 102, 103]) (.var 12))) (.str [32, 120]))
def lclawcases10 : E := .lc .range1 [12] false [("_law_at", 12)] (.cons (.var 2) .nil) .nil lclawcases10e
def lplawcases11b : S := (.seq (.set 9 lclawcases10) (.seq (.expr (.bm .append (.var 4) (.cons (.tup (.cons (.bin .add (.lst false (.cons (.str [107, 105, 110, 100, 32, 107]) (.cons (.str [112, 97, 115, 115]) (.cons (.str [32, 32, 101, 110, 100]) .nil)))) (.var 9)) (.cons (.ite (.cmp .gt (.var 2) (.int 6)) (.int 10) .non) .nil))) .nil))) (.seq (.set 10 (.sl (.lst false (.cons (.str [105, 115]) (.cons (.str [105, 102]) (.cons (.str [120]) (.cons (.str [121]) (.cons (.str [120]) (.cons (.str [122]) (.cons (.str [107]) .nil)))))))) .nil (.cons (.var 2) .nil))) (.seq (.expr (.bm .append (.var 4) (.cons (.tup (.cons (.lst false (.cons (.str [107, 105, 110, 100, 32, 107]) (.cons (.str [112, 97, 115, 115]) (.cons (.str [32, 32, 111, 112, 101, 110, 32, 107]) (.cons (.bin .add (.str [32, 32, 32, 32, 108, 105, 110, 101, 32, 97, 32]) (.bm .join (.str [32]) (.cons (.var 10) .nil))) .nil))))) (.cons (.ite (.cmp .gt (.var 2) (.int 6)) (.int 4) .non) .nil))) .nil))) (.seq (.set 11 (.bin .add (.str [32, 32, 32, 32, 104, 101, 97, 100, 32, 97, 32, 107, 32]) (.bm .join (.str [32]) (.cons (.var 10) .nil)))) (.seq (.expr (.bm .append (.var 4) (.cons (.tup (.cons (.lst false (.cons (.str [107, 105, 110, 100, 32, 107]) (.cons (.str [112, 97, 115, 115]) (.cons (.str [32, 32, 99, 108, 111, 115, 101, 32, 107]) (.cons (.var 11) .nil))))) (.cons (.ite (.cmp .gt (.var 2) (.int 6)) (.int 4) .non) .nil))) .nil))) .nil))))))
def lplawcases11 : S := .loop .seq [2] false (.cons (.tup (.cons (.int 6) (.cons (.int 7) .nil))) .nil) lplawcases11b
def lclawcases12e : E := (.bin .add (.bin .add (.str [32, 32, 99, 101, 108, 108, 32]) (.idx (.str [109, 110, 111]) (.var 12))) (.str [32, 50]))
def lclawcases12 : E := .lc .range1 [12] false [("_law_at", 12)] (.cons (.var 2) .nil) .nil lclawcases12e
def lclawcases13e : E := (.bin .add (.str [32, 32, 102, 105, 101, 108, 100, 32]) (.idx (.str [102, 103, 104]) (.var 12)))
def lclawcases13 : E := .lc .range1 [12] false [("_law_at", 12)] (.cons (.var 2) .nil) .nil lclawcases13e
def lplawcases14b : S := (.seq (.set 6 lclawcases13) (.seq (.expr (.bm .append (.var 4) (.cons (.tup (.cons (.bin .add (.bin .add (.lst false (.cons (.bin .add (.str [107, 105, 110, 100, 32]) (.var 3)) .nil)) (.var 6)) (.var 1)) (.cons (.ite (.cmp .gt (.var 2) (.int 2)) (.int 4) .non) .nil))) .nil))) (.seq (.set 7 (.bin .mul (.lst false (.cons (.str [112, 97, 115, 115]) .nil)) (.var 2))) (.seq (.expr (.bm .append (.var 4) (.cons (.tup (.cons (.bin .add (.lst false (.cons (.bin .add (.str [107, 105, 110, 100, 32]) (.var 3)) .nil)) (.var 7)) (.cons (.ite (.cmp .gt (.var 2) (.int 2)) (.int 4) .non) .nil))) .nil))) (.seq (.set 8 lclawcases12) (.seq (.expr (.bm .append (.var 4) (.cons (.tup (.cons (.bin .add (.lst false (.cons (.bin .add (.str [107, 105, 110, 100, 32]) (.var 3)) (.cons (.str [112, 97, 115, 115]) .nil))) (.var 8)) (.cons (.ite (.cmp .gt (.var 2) (.int 2)) (.int 5) .non) .nil))) .nil))) .nil))))))
def lplawcases14 : S := .loop .seq [2] false (.cons (.tup (.cons (.int 2) (.cons (.int 3) .nil))) .nil) lplawcases14b
def lclawcases15e : E := (.bin .add (.bin .add (.str [107, 105, 110, 100, 32, 107]) (.idx (.str [112, 113, 114, 115, 116]) (.var 12))) (.ite (.cmp .gt (.var 12) (.int 0)) (.bin .add (.str [32, 105, 110, 32, 107]) (.idx (.str [112, 113, 114, 115, 116]) (.bin .sub (.var 12) (.int 1)))) (.str [])))
def lclawcases15 : E := .lc .range1 [12] false [("_law_at", 12)] (.cons (.var 2) .nil) .nil lclawcases15e
def lplawcases16b : S := (.seq (.set 5 lclawcases15) (.seq (.expr (.bm .append (.var 4) (.cons (.tup (.cons (.bin .add (.var 5) (.var 1)) (.cons (.ite (.cmp .eq (.var 2) (.int 4)) (.int 4) .non) .nil))) .nil))) .nil))
def lplawcases16 : S := .loop .seq [2] false (.cons (.tup (.cons (.int 3) (.cons (.int 4) .nil))) .nil) lplawcases16b
def lclawcases17e : E := (.bin .add (.str [107, 105, 110, 100, 32, 107]) (.idx (.str [112, 113, 114, 115, 116]) (.var 12)))
def lclawcases17 : E := .lc .range1 [12] false [("_law_at", 12)] (.cons (.var 2) .nil) .nil lclawcases17e
def lplawcases18b : S := (.seq (.expr (.bm .append (.var 4) (.cons (.tup (.cons (.bin .add lclawcases17 (.var 1)) (.cons (.ite (.cmp .eq (.var 2) (.int 5)) (.int 5) .non) .nil))) .nil))) .nil)
def lplawcases18 : S := .loop .seq [2] false (.cons (.tup (.cons (.int 4) (.cons (.int 5) .nil))) .nil) lplawcases18b
def dlawcases : Df := ⟨["_law_pot_here"], ["_law_pot_here", "_law_tail", "_law_many", "_law_letter", "_law_found", "_law_chain", "_law_fields", "_law_passes", "_law_cells", "_law_rows", "_law_words", "_law_head", "_law_at"], (.seq (.par [3, 4] (.cons (.call 473 (.cons (.var 0) (.cons (.lst false (.cons (.str [97]) (.cons (.str [108, 105, 110, 101]) (.cons (.str [120]) .nil)))) .nil))) (.cons (.lst true .nil) .nil))) (.iso 1 [3, 4] (.seq (.set 1 (.lst false (.cons (.str [112, 97, 115, 115]) (.cons (.str [32, 32, 98, 101, 103, 105, 110]) (.cons (.str [32, 32, 32, 32, 108, 105, 110, 101, 32, 113, 32, 120]) .nil))))) (.seq lplawcases18 (.seq lplawcases16 (.seq lplawcases14 (.seq lplawcases11 (.seq (.ret (.bin .addL (.var 4) (.call 451 (.cons (.var 3) .nil)))) .nil)))))))), false, []⟩
def lplawmorecases1b : S := (.seq (.set 5 (.lst false (.cons (.str [107, 105, 110, 100, 32, 107]) (.cons (.str [112, 97, 115, 115]) (.cons (.str [32, 32, 99, 101, 108, 108, 32, 109, 32, 51]) (.cons (.str [32, 32, 101, 110, 100]) (.cons (.bin .add (.str [32, 32, 32, 32, 115, 101, 116, 32, 109, 32]) (.var 3)) .nil))))))) (.seq (.expr (.bm .append (.var 1) (.cons (.tup (.cons (.var 5) (.cons (.ite (.cmp .inn (.var 3) (.tup (.cons (.str [48]) (.cons (.str [49]) (.cons (.str [50]) .nil))))) .non (.int 5)) .nil))) .nil))) (.seq (.set 5 (.lst false (.cons (.str [107, 105, 110, 100, 32, 107]) (.cons (.str [112, 97, 115, 115]) (.cons (.str [32, 32, 99, 101, 108, 108, 32, 109, 32, 50]) (.cons (.str [32, 32, 101, 110, 100]) (.cons (.bin .add (.str [32, 32, 32, 32, 105, 102, 32, 109, 32, 61, 32]) (.var 3)) (.cons (.str [32, 32, 32, 32, 32, 32, 108, 105, 110, 101, 32, 97, 32, 120]) .nil)))))))) (.seq (.expr (.bm .append (.var 1) (.cons (.tup (.cons (.var 5) (.cons (.ite (.cmp .inn (.var 3) (.tup (.cons (.str [48]) (.cons (.str [49]) .nil)))) .non (.int 5)) .nil))) .nil))) .nil))))
def lplawmorecases1 : S := .loop .seq [3] false (.cons (.tup (.cons (.str [48]) (.cons (.str [49]) (.cons (.str [50]) (.cons (.str [51]) (.cons (.str [45, 49]) (.cons (.str [48, 49]) .nil))))))) .nil) lplawmorecases1b
def lplawmorecases2b : S := (.seq (.set 5 (.lst false (.cons (.str [107, 105, 110, 100, 32, 107]) (.cons (.str [112, 97, 115, 115]) (.cons (.bin .add (.str [32, 32, 99, 101, 108, 108, 32, 109, 32]) (.var 2)) (.cons (.str [32, 32, 101, 110, 100]) (.cons (.str [32, 32, 32, 32, 115, 101, 116, 32, 109, 32, 49]) .nil))))))) (.seq (.expr (.bm .append (.var 1) (.cons (.tup (.cons (.var 5) (.cons (.ite (.cmp .inn (.var 2) (.tup (.cons (.str [50]) (.cons (.str [51]) .nil)))) .non (.int 3)) .nil))) .nil))) .nil))
def lplawmorecases2 : S := .loop .seq [2] false (.cons (.tup (.cons (.str [50]) (.cons (.str [51]) (.cons (.str [49]) (.cons (.str [52]) (.cons (.str [48, 50]) (.cons (.str [116, 119, 111]) .nil))))))) .nil) lplawmorecases2b
def lplawmorecases3b : S := (.seq (.set 6 (.sl (.bin .mul (.var 0) (.int 9)) .nil (.cons (.var 2) .nil))) (.seq (.expr (.bm .append (.var 1) (.cons (.tup (.cons (.lst false (.cons (.bin .add (.str [107, 105, 110, 100, 32]) (.var 6)) (.cons (.str [112, 97, 115, 115]) .nil))) (.cons (.ite (.cmp .gt (.var 2) (.int 8)) (.int 1) .non) .nil))) .nil))) (.seq (.expr (.bm .append (.var 1) (.cons (.tup (.cons (.lst false (.cons (.str [107, 105, 110, 100, 32, 107]) (.cons (.bin .add (.str [32, 32, 102, 105, 101, 108, 100, 32]) (.var 6)) (.cons (.str [112, 97, 115, 115]) .nil)))) (.cons (.ite (.cmp .gt (.var 2) (.int 8)) (.int 2) .non) .nil))) .nil))) (.seq (.expr (.bm .append (.var 1) (.cons (.tup (.cons (.lst false (.cons (.str [107, 105, 110, 100, 32, 107]) (.cons (.str [112, 97, 115, 115]) (.cons (.str [32, 32, 98, 101, 103, 105, 110]) (.cons (.bin .add (.bin .add (.str [32, 32, 32, 32, 108, 105, 110, 101, 32]) (.var 6)) (.str [32, 120])) .nil))))) (.cons (.ite (.cmp .gt (.var 2) (.int 8)) (.int 4) .non) .nil))) .nil))) (.seq (.expr (.bm .append (.var 1) (.cons (.tup (.cons (.lst false (.cons (.str [107, 105, 110, 100, 32, 107]) (.cons (.str [112, 97, 115, 115]) (.cons (.str [32, 32, 98, 101, 103, 105, 110]) (.cons (.bin .add (.str [32, 32, 32, 32, 108, 105, 110, 101, 32, 97, 32]) (.var 6)) .nil))))) (.cons (.ite (.cmp .gt (.var 2) (.int 8)) (.int 4) .non) .nil))) .nil))) .nil)))))
def lplawmorecases3 : S := .loop .seq [2] false (.cons (.tup (.cons (.int 8) (.cons (.int 9) .nil))) .nil) lplawmorecases3b
def lclawmorecases4e : E := (.bin .add (.bin .mul (.str [32]) (.bin .add (.int 4) (.bin .mul (.int 2) (.var 7)))) (.str [105, 102, 32, 107, 46, 107, 101, 121, 32, 105, 115, 32, 120]))
def lclawmorecases4 : E := .lc .range1 [7] false [("_law_at", 7)] (.cons (.var 2) .nil) .nil lclawmorecases4e
def lplawmorecases5b : S := (.seq (.set 4 lclawmorecases4) (.seq (.set 5 (.bin .add (.bin .add (.lst false (.cons (.str [107, 105, 110, 100, 32, 107]) (.cons (.str [112, 97, 115, 115]) (.cons (.str [32, 32, 111, 112, 101, 110, 32, 107]) .nil)))) (.var 4)) (.lst false (.cons (.bin .add (.bin .mul (.str [32]) (.bin .add (.int 4) (.bin .mul (.int 2) (.var 2)))) (.str [108, 105, 110, 101, 32, 97, 32, 120])) .nil)))) (.seq (.expr (.bm .append (.var 1) (.cons (.tup (.cons (.var 5) (.cons (.ite (.cmp .gt (.var 2) (.int 2)) (.int 6) .non) .nil))) .nil))) .nil)))
def lplawmorecases5 : S := .loop .seq [2] false (.cons (.tup (.cons (.int 2) (.cons (.int 3) .nil))) .nil) lplawmorecases5b
def dlawmorecases : Df := ⟨["_law_letter"], ["_law_letter", "_law_found", "_law_many", "_law_worth", "_law_nest", "_law_page", "_law_word", "_law_at"], (.seq (.set 1 (.lst true .nil)) (.seq lplawmorecases5 (.seq lplawmorecases3 (.seq lplawmorecases2 (.seq lplawmorecases1 (.seq (.ret (.var 1)) .nil)))))), false, []⟩
def lplawright1b : S := (.seq (.asg [4, 5] (.call 473 (.cons (.var 0) (.cons (.var 1) .nil)))) (.seq (.set 3 (.call 309 (.cons (.bm .join (.str [10]) (.cons (.var 4) .nil)) .nil))) (.seq (.ite (.or (.cmp .ne (.var 3) (.ite (.notn (.var 5)) (.var 5) (.str [116, 111, 108, 100]))) (.bcall .isi (.cons (.var 3) (.cons (.ty 1) .nil)))) (.seq (.ret (.bool false)) .nil) .nil) .nil)))
def lplawright1 : S := .loop .range1 [2] false (.cons (.int 6) .nil) lplawright1b
def dlawright : Df := ⟨["_law_pot_here"], ["_law_pot_here", "_law_some", "_law_turn", "_law_told", "_law_page", "_law_due"], (.seq (.set 1 (.call 308 (.cons (.var 0) .nil))) (.seq lplawright1 (.seq (.ret (.bool true)) .nil))), false, []⟩
def lplaw1b : S := (.seq (.set 2 (.call 514 (.cons (.var 0) (.cons (.var 1) .nil)))) (.seq (.ite (.not (.call 529 (.cons (.var 2) .nil))) (.seq (.ret (.bool false)) .nil) .nil) .nil))
def lplaw1 : S := .loop .range1 [1] false (.cons (.bcall .max (.cons (.int 1) (.cons (.bcall .min (.cons (.int 3) (.cons (.bcall .len (.cons (.var 0) .nil)) .nil))) .nil))) .nil) lplaw1b
def dlaw : Df := ⟨["_law_script"], ["_law_script", "_law_k", "_law_pot_here"], (.seq lplaw1 (.seq (.ret (.bool true)) .nil)), false, []⟩
def tabT : List Tx := [⟨799, top 7, disword⟩,
  ⟨1091, top 13, dwordsin⟩,
  ⟨725, top 14, dfigurein⟩,
  ⟨1230272, topM 15 0, dLinesXinit⟩,
  ⟨1230668, topM 15 1, dLinesXat⟩,
  ⟨1230670, topM 15 2, dLinesXbegins⟩,
  ⟨1230967, topM 15 3, dLinesXplace⟩,
  ⟨1230851, topM 15 4, dLinesXneed⟩,
  ⟨1231039, topM 15 5, dLinesXtake⟩,
  ⟨1230658, topM 15 6, dLinesXareover⟩,
  ⟨2260272, topM 29 0, dStatementXinit⟩,
  ⟨2261099, topM 29 1, dStatementXwriting⟩,
  ⟨2261004, topM 29 2, dStatementXsetting⟩,
  ⟨2261047, topM 29 3, dStatementXtesting⟩,
  ⟨390272, topM 30 0, dBlockXinit⟩,
  ⟨1840272, topM 31 0, dPassXinit⟩,
  ⟨1870272, topM 32 0, dPlanXinit⟩,
  ⟨649, top 33, dallstatements⟩,
  ⟨745, top 34, dhandlersof⟩,
  ⟨1094, top 35, dwordstold⟩,
  ⟨2230272, topM 58 0, dScopeXinit⟩,
  ⟨2230986, topM 58 1, dScopeXrefin⟩,
  ⟨2231054, topM 58 2, dScopeXtokenin⟩,
  ⟨2231055, topM 58 3, dScopeXtokensin⟩,
  ⟨2230749, topM 58 4, dScopeXhomein⟩,
  ⟨2231100, topM 58 5, dScopeXwritingin⟩,
  ⟨2231005, topM 58 6, dScopeXsettingin⟩,
  ⟨2231022, topM 58 7, dScopeXsimplein⟩,
  ⟨2231046, topM 58 8, dScopeXtestin⟩,
  ⟨400272, topM 59 0, dBlockReaderXinit⟩,
  ⟨400672, topM 59 1, dBlockReaderXblock⟩,
  ⟨401026, topM 59 2, dBlockReaderXstatement⟩,
  ⟨400750, topM 59 3, dBlockReaderXifread⟩,
  ⟨1880272, topM 60 0, dPlanReaderXinit⟩,
  ⟨1880979, topM 60 1, dPlanReaderXread⟩,
  ⟨1880981, topM 60 2, dPlanReaderXreadkind⟩,
  ⟨1880676, topM 60 3, dPlanReaderXcellsread⟩,
  ⟨1880961, topM 60 4, dPlanReaderXpassread⟩,
  ⟨1880744, topM 60 5, dPlanReaderXhandler⟩,
  ⟨983, top 61, dreadplan⟩,
  ⟨1900272, topM 63 0, dProgramXinit⟩,
  ⟨1906048, topM 63 1, dProgramXtext⟩,
  ⟨514, top 65, dlawpot⟩,
  ⟨580, top 66, dlawtake⟩,
  ⟨473, top 67, dlawof⟩,
  ⟨309, top 68, dlawcaught⟩,
  ⟨308, top 69, dlawcases⟩,
  ⟨451, top 70, dlawmorecases⟩,
  ⟨529, top 71, dlawright⟩,
  ⟨822, top 72, dlaw⟩]
def itT : List Itx := [⟨39, 941, topM 30 1⟩]
def xsT : List Xcx := [⟨36, 828, topM 3 0⟩]
def dsT : List Dcx := [⟨124, [([50], .int 2), ([51], .int 3)]⟩]
def gM : Gs := ⟨["all", "len", "isinstance", "str", "tuple", "sorted", "dict", "int", "abs", "ValueError", "range", "bool", "max", "min", "iter"],
  tabF tabT,
  [(114, .str [97, 98, 99, 100, 101, 102, 103, 104, 105, 106, 107, 108, 109, 110, 111, 112, 113, 114, 115, 116, 117, 118, 119, 120, 121, 122]), (139, .int 8), (216, .int 2), (19, .str [32]), (78, .str [48, 49, 50, 51, 52, 53, 54, 55, 56, 57]), (46, .str [99, 108, 111, 115, 101]), (167, .str [111, 112, 101, 110]), (69, .str [101, 110, 100]), (13, .str [98, 101, 103, 105, 110]), (193, .str [114, 101, 102]), (257, .str [119, 111, 114, 100]), (64, .str [46]), (151, .int 6), (157, .str [45]), (118, .str [108, 105, 110, 101]), (204, .str [115, 101, 116]), (94, .str [104, 101, 97, 100]), (101, .str [105, 115]), (70, .str [61]), (41, .str [99, 101, 108, 108]), (150, .int 6), (96, .str [105, 102]), (68, .str [101, 108, 115, 101]), (141, .int 2), (229, .int 0), (180, .str [112, 97, 115, 115]), (144, .int 2), (111, .str [107, 105, 110, 100]), (138, .int 4), (106, .str [107, 101, 121]), (77, .str [102, 105, 101, 108, 100]), (17, .int 1), (135, .int 2), (133, .int 3), (99, .str [105, 110]), (132, .int 2), (254, .int 2), (72, .str [10])],
  [(123, [932, 910]), (226, [954, 900, 895, 885, 947, 871, 956, 943, 880, 937]), (39, [941]), (184, [872, 867, 878, 916, 873]), (187, [901, 893, 874, 931, 920, 896, 955]), (223, [924, 872, 885, 913]), (40, [932, 936, 911]), (188, [932, 924]), (190, [924, 944])],
  [(39, 941)], [(36, 828)], [(36, [36]), (113, [36])], [(124, [([50], .int 2), ([51], .int 3)])]⟩
-- law at 72 top statements 73 law number 822
def ld : Ld := ⟨gM, tabT, itT, xsT, dsT, "/claim/cut.py"⟩
end K06

set_option maxRecDepth 100000
set_option maxHeartbeats 4000000
/-! what is wanted of a run of the small language, step by step -/
namespace Mi
open PySem PySem.Spec L2

def Wp {α : Type} (r : R α) (Q : α → Sto → Prop) (X : Ex → Sto → Prop) : Prop := match r with
  | .ok a st => Q a st
  | .exc x st => X x st
  | .bad => False
def Ws (r : RS) (Q : Fl → Sto → Prop) (X : Ex → En → Sto → Prop) : Prop := match r with
  | .ok f st => Q f st
  | .exc x en st => X x en st
  | .bad => False
/-- a test's answer -/
def TruQ (x : D) (st : Sto) (P : Bool → Prop) : Prop := ∃ k, truthD x st = some k ∧ P k
def IfQ (k : Bool) (A B : Prop) : Prop := (k = true → A) ∧ (k = false → B)
theorem tq_of {x : D} {st : Sto} {P : Bool → Prop} {k : Bool} (e : truthD x st = some k) (q : P k) : TruQ x st P := ⟨k, e, q⟩
theorem tq_bl {b : Bool} {st : Sto} {P : Bool → Prop} (q : P b) : TruQ (.bl b) st P := ⟨b, rfl, q⟩
theorem tq_int {i : Int} {st : Sto} {P : Bool → Prop} (q : P (i != 0)) : TruQ (.int i) st P := ⟨_, rfl, q⟩
theorem tq_tup {ds : List D} {st : Sto} {P : Bool → Prop} (q : P (!ds.isEmpty)) : TruQ (.tup ds) st P := ⟨_, rfl, q⟩
theorem tq_lst {ds : List D} {st : Sto} {P : Bool → Prop} (q : P (!ds.isEmpty)) : TruQ (.lst ds) st P := ⟨_, rfl, q⟩
theorem tq_non {st : Sto} {P : Bool → Prop} (q : P false) : TruQ .non st P := ⟨_, rfl, q⟩
theorem if_t {A B : Prop} (a : A) : IfQ true A B := ⟨fun _ => a, fun z => Bool.noConfusion z⟩
theorem if_f {A B : Prop} (b : B) : IfQ false A B := ⟨fun z => Bool.noConfusion z, fun _ => b⟩
theorem if_n {k : Bool} {A B : Prop} (q : IfQ k B A) : IfQ (!k) A B := ⟨fun z => q.2 (by cases k <;> first | rfl | cases z), fun z => q.1 (by cases k <;> first | rfl | cases z)⟩
theorem if_d {p : Prop} [Decidable p] {A B : Prop} (a : p → A) (b : ¬ p → B) : IfQ (decide p) A B := ⟨fun z => a (of_decide_eq_true z), fun z => b (of_decide_eq_false z)⟩
theorem if_eq {i j : Int} {A B : Prop} (a : i = j → A) (b : i ≠ j → B) : IfQ (i == j) A B := ⟨fun z => a (beq_iff_eq.mp z), fun z => b (beq_eq_false_iff_ne.mp z)⟩
theorem if_ne {i j : Int} {A B : Prop} (a : i ≠ j → A) (b : i = j → B) : IfQ (i != j) A B := if_n (if_eq b a)
theorem if_b {k : Bool} {A B : Prop} (a : k = true → A) (b : k = false → B) : IfQ k A B := ⟨a, b⟩
theorem if_bt {k : Bool} {A B : Prop} (e : k = true) (a : A) : IfQ k A B := ⟨fun _ => a, fun z => Bool.noConfusion (e.symm.trans z)⟩
theorem if_bf {k : Bool} {A B : Prop} (e : k = false) (b : B) : IfQ k A B := ⟨fun z => Bool.noConfusion (e.symm.trans z), fun _ => b⟩
theorem if_dt {p : Prop} [Decidable p] {A B : Prop} (h : p) (a : A) : IfQ (decide p) A B := if_bt (decide_eq_true h) a
theorem if_df {p : Prop} [Decidable p] {A B : Prop} (h : ¬ p) (b : B) : IfQ (decide p) A B := if_bf (decide_eq_false h) b
theorem if_et {i j : Int} {A B : Prop} (e : i = j) (a : A) : IfQ (i == j) A B := if_bt (beq_iff_eq.mpr e) a
theorem if_en {i j : Int} {A B : Prop} (e : i ≠ j) (b : B) : IfQ (i == j) A B := if_bf (beq_eq_false_iff_ne.mpr e) b
theorem if_nt {i j : Int} {A B : Prop} (e : i = j) (b : B) : IfQ (i != j) A B := if_n (if_et e b)
theorem if_nn {i j : Int} {A B : Prop} (e : i ≠ j) (a : A) : IfQ (i != j) A B := if_n (if_en e a)
theorem IfQ.t {k : Bool} {A B : Prop} (h : IfQ k A B) (e : k = true) : A := h.1 e
theorem IfQ.f {k : Bool} {A B : Prop} (h : IfQ k A B) (e : k = false) : B := h.2 e
def IntQ (r : D) (P : Int → Prop) : Prop := ∃ k, r = .int k ∧ P k
theorem iq_int {b : Int} {P : Int → Prop} (q : P b) : IntQ (.int b) P := ⟨b, rfl, q⟩
def SoQ {α : Type} (o : Option α) (P : α → Prop) : Prop := ∃ a, o = some a ∧ P a
theorem so_of {α : Type} {o : Option α} {P : α → Prop} {a : α} (e : o = some a) (q : P a) : SoQ o P := ⟨a, e, q⟩
theorem so_some {α : Type} {P : α → Prop} {a : α} (q : P a) : SoQ (some a) P := ⟨a, rfl, q⟩
def ChQ (r : D) (P : Bool → Prop) : Prop := ∃ k, r = .bl k ∧ P k
theorem cq_bl {b : Bool} {P : Bool → Prop} (q : P b) : ChQ (.bl b) P := ⟨b, rfl, q⟩
/-- nothing is raised -/
abbrev noX : Ex → Sto → Prop := fun _ _ => False
section
variable {α β : Type} {r : R α} {Q Q' : α → Sto → Prop} {X X' : Ex → Sto → Prop} {G : Gs} {C : Call} {en : En} {st st1 : Sto}
theorem Wp.ok {a : α} (e : r = .ok a st1) (q : Q a st1) : Wp r Q X := by rw [e]; exact q
theorem ok_b2 {o : B2} {x y a : D} {Q : D → Sto → Prop} (e : b2 o x y st = .ok a st1) (q : Q a st1) : Wp (b2 o x y st) Q X := Wp.ok e q
theorem ok_c2 {o : C2} {x y a : D} {Q : D → Sto → Prop} (e : c2 o x y st = .ok a st1) (q : Q a st1) : Wp (c2 o x y st) Q X := Wp.ok e q
theorem ok_bf {o : Bf} {ds : List D} {a : D} {Q : D → Sto → Prop} (e : bf o ds st = .ok a st1) (q : Q a st1) : Wp (bf o ds st) Q X := Wp.ok e q
theorem ok_neg {x a : D} {Q : D → Sto → Prop} (e : negD x st = .ok a st1) (q : Q a st1) : Wp (negD x st) Q X := Wp.ok e q
theorem ok_rev {x a : D} {Q : D → Sto → Prop} (e : revD x st = .ok a st1) (q : Q a st1) : Wp (revD x st) Q X := Wp.ok e q
theorem ok_sset {x a : D} {Q : D → Sto → Prop} (e : ssetD x st = .ok a st1) (q : Q a st1) : Wp (ssetD x st) Q X := Wp.ok e q
theorem ok_upper {x a : D} {Q : D → Sto → Prop} (e : upperD x st = .ok a st1) (q : Q a st1) : Wp (upperD x st) Q X := Wp.ok e q
theorem ok_idx {x y a : D} {Q : D → Sto → Prop} (e : idxD x y st = .ok a st1) (q : Q a st1) : Wp (idxD x y st) Q X := Wp.ok e q
theorem ok_sl {x a : D} {l u : Option Int} {Q : D → Sto → Prop} (e : slD x l u st = .ok a st1) (q : Q a st1) : Wp (slD x l u st) Q X := Wp.ok e q
theorem ok_aug {o : B2} {x y a : D} {Q : D → Sto → Prop} (e : aug2 o x y st = .ok a st1) (q : Q a st1) : Wp (aug2 o x y st) Q X := Wp.ok e q
theorem Wp.exc {x : Ex} (e : r = .exc x st1) (q : X x st1) : Wp r Q X := by rw [e]; exact q
theorem Wp.mono (h : Wp r Q' X') (q : ∀ a st, Q' a st → Q a st) (x : ∀ y st, X' y st → X y st) : Wp r Q X := by
  cases r with
  | ok a st => exact q _ _ h
  | exc y st => exact x _ _ h
  | bad => exact h
theorem Wp.to (h : Wp r Q' noX) (q : ∀ a st, Q' a st → Q a st) : Wp r Q X := h.mono q fun _ _ z => z.elim
theorem Wp.ok_inv (h : Wp r Q noX) : ∃ a st, r = .ok a st ∧ Q a st := by
  cases r with
  | ok a st => exact ⟨a, st, rfl, h⟩
  | exc y st => exact h.elim
  | bad => exact h.elim
theorem Wp.bind {f : α → Sto → R β} {Q : β → Sto → Prop} (h : Wp r (fun a st => Wp (f a st) Q X) X) : Wp (r.bind f) Q X := by
  cases r <;> exact h
theorem Wp.andS {f : α → Sto → RS} {Q : Fl → Sto → Prop} {X : Ex → En → Sto → Prop} (h : Wp r (fun a st => Ws (f a st) Q X) (fun x st => X x en st)) : Ws (r.andS en f) Q X := by
  cases r <;> exact h
theorem Wp.shut_ {X' : Ex → Sto → Prop} (h : Wp r Q noX) : Wp (shut r) Q X' := by
  cases r with
  | ok a st => exact h
  | exc y st => exact h.elim
  | bad => exact h.elim
theorem Wp.tru {r : R D} {Q : Bool → Sto → Prop} (h : Wp r (fun d st => TruQ d st fun b => Q b st) X) : Wp (tru r) Q X := by
  cases r with
  | ok d st =>
    obtain ⟨b, e, q⟩ := h
    show Wp (match truthD d st with | some b => R.ok b st | none => R.bad) Q X
    rw [e]; exact q
  | exc y st => exact h
  | bad => exact h
def SqQ (N : En → Sto → Prop) (Q : Fl → Sto → Prop) : Fl → Sto → Prop
  | .nx en, st => N en st
  | fl, st => Q fl st
theorem sqq_nx {N : En → Sto → Prop} {Q : Fl → Sto → Prop} {en : En} {st : Sto} (q : N en st) : SqQ N Q (.nx en) st := q
theorem sqq_rt {N : En → Sto → Prop} {Q : Fl → Sto → Prop} {v : D} {st : Sto} (q : Q (.rt v) st) : SqQ N Q (.rt v) st := q
theorem sqq_bk {N : En → Sto → Prop} {Q : Fl → Sto → Prop} {v : En} {st : Sto} (q : Q (.bk v) st) : SqQ N Q (.bk v) st := q
theorem sqq_ct {N : En → Sto → Prop} {Q : Fl → Sto → Prop} {v : En} {st : Sto} (q : Q (.ct v) st) : SqQ N Q (.ct v) st := q
theorem Ws.more {r : RS} {f : En → Sto → RS} {Q : Fl → Sto → Prop} {X : Ex → En → Sto → Prop} (h : Ws r (SqQ (fun en st => Ws (f en st) Q X) Q) X) : Ws (r.more f) Q X := by
  cases r with
  | ok fl st => cases fl <;> exact h
  | exc y en st => exact h
  | bad => exact h
theorem Ws.mono {r : RS} {Q Q' : Fl → Sto → Prop} {X X' : Ex → En → Sto → Prop} (h : Ws r Q' X') (q : ∀ a st, Q' a st → Q a st) (x : ∀ y en st, X' y en st → X y en st) : Ws r Q X := by
  cases r with
  | ok a st => exact q _ _ h
  | exc y en st => exact x _ _ _ h
  | bad => exact h

variable {Q : D → Sto → Prop}
theorem wp_var {i : Nat} {d : D} (e : en[i]? = some (some d)) (q : Q d st) : Wp (ev G C (.var i) en st) Q X := Wp.ok (by show (match en[i]? with | some (some d) => R.ok d st | _ => R.bad) = _; rw [e]) q
theorem wp_int {i : Int} (q : Q (.int i) st) : Wp (ev G C (.int i) en st) Q X := q
theorem wp_str {s : List Nat} (q : Q (.str s) st) : Wp (ev G C (.str s) en st) Q X := q
theorem wp_bool {b : Bool} (q : Q (.bl b) st) : Wp (ev G C (.bool b) en st) Q X := q
theorem wp_non (q : Q .non st) : Wp (ev G C .non en st) Q X := q
theorem wp_ty {n : Nat} (q : Q (.ty n) st) : Wp (ev G C (.ty n) en st) Q X := q
theorem wp_glo {x : Nat} {d : D} (e : G.glo.lookup x = some d) (q : Q d st) : Wp (ev G C (.glo x) en st) Q X := Wp.ok (by show (match G.glo.lookup x with | some d => R.ok d st | none => R.bad) = _; rw [e]) q
theorem wp_bin {o : B2} {a b : E} (h : Wp (ev G C a en st) (fun x st => Wp (ev G C b en st) (fun y st => Wp (b2 o x y st) Q noX) X) X) : Wp (ev G C (.bin o a b) en st) Q X :=
  Wp.bind (h.mono (fun _ _ h => Wp.bind (h.mono (fun _ _ h => h.shut_) fun _ _ h => h)) fun _ _ h => h)
theorem wp_cmp {o : C2} {a b : E} (h : Wp (ev G C a en st) (fun x st => Wp (ev G C b en st) (fun y st => Wp (c2 o x y st) Q noX) X) X) : Wp (ev G C (.cmp o a b) en st) Q X :=
  Wp.bind (h.mono (fun _ _ h => Wp.bind (h.mono (fun _ _ h => h.shut_) fun _ _ h => h)) fun _ _ h => h)
theorem wp_neg {a : E} (h : Wp (ev G C a en st) (fun x st => Wp (negD x st) Q noX) X) : Wp (ev G C (.neg a) en st) Q X := Wp.bind (h.mono (fun _ _ h => h.shut_) fun _ _ h => h)
theorem wp_rev {a : E} (h : Wp (ev G C a en st) (fun x st => Wp (revD x st) Q noX) X) : Wp (ev G C (.rev a) en st) Q X := Wp.bind (h.mono (fun _ _ h => h.shut_) fun _ _ h => h)
theorem wp_sset {a : E} (h : Wp (ev G C a en st) (fun x st => Wp (ssetD x st) Q noX) X) : Wp (ev G C (.sset a) en st) Q X := Wp.bind (h.mono (fun _ _ h => h.shut_) fun _ _ h => h)
theorem wp_upper {a : E} (h : Wp (ev G C a en st) (fun x st => Wp (upperD x st) Q noX) X) : Wp (ev G C (.upper a) en st) Q X := Wp.bind (h.mono (fun _ _ h => h.shut_) fun _ _ h => h)
theorem wp_isn {a : E} (h : Wp (ev G C a en st) (fun x st => Q (.bl (isNon x)) st) X) : Wp (ev G C (.isn a) en st) Q X := Wp.bind h
theorem wp_notn {a : E} (h : Wp (ev G C a en st) (fun x st => Q (.bl (!isNon x)) st) X) : Wp (ev G C (.notn a) en st) Q X := Wp.bind h
theorem wp_and {a b : E} (h : Wp (ev G C a en st) (fun x st => TruQ x st fun k => IfQ k (Wp (ev G C b en st) Q X) (Q x st)) X) : Wp (ev G C (.and a b) en st) Q X :=
  Wp.bind (h.mono (fun x st h => by
    obtain ⟨k, e, h1, h2⟩ := h
    cases k with
    | true => rw [e]; exact h1 rfl
    | false => rw [e]; exact h2 rfl) fun _ _ h => h)
theorem wp_or {a b : E} (h : Wp (ev G C a en st) (fun x st => TruQ x st fun k => IfQ k (Q x st) (Wp (ev G C b en st) Q X)) X) : Wp (ev G C (.or a b) en st) Q X :=
  Wp.bind (h.mono (fun x st h => by
    obtain ⟨k, e, h1, h2⟩ := h
    cases k with
    | true => rw [e]; exact h1 rfl
    | false => rw [e]; exact h2 rfl) fun _ _ h => h)
theorem wp_not {a : E} (h : Wp (ev G C a en st) (fun x st => TruQ x st fun k => Q (.bl (!k)) st) X) : Wp (ev G C (.not a) en st) Q X :=
  Wp.bind (h.mono (fun x st h => by
    obtain ⟨k, e, h1⟩ := h
    rw [e]; exact h1) fun _ _ h => h)
theorem wp_chain {o o2 : C2} {a b c : E} (h : Wp (ev G C a en st) (fun x st => Wp (ev G C b en st) (fun y st => Wp (c2 o x y st) (fun r st => ChQ r fun k => IfQ k (Wp (ev G C c en st) (fun z st => Wp (c2 o2 y z st) Q noX) X) (Q (.bl false) st)) noX) X) X) : Wp (ev G C (.chain o o2 a b c) en st) Q X :=
  Wp.bind (h.mono (fun x st h => Wp.bind (h.mono (fun y st h => Wp.bind (Wp.shut_ (h.mono (fun r st h => by
    obtain ⟨k, rfl, h1, h2⟩ := h
    cases k with
    | true => exact Wp.bind ((h1 rfl).mono (fun _ _ h => h.shut_) fun _ _ h => h)
    | false => exact h2 rfl) fun _ _ h => h))) fun _ _ h => h)) fun _ _ h => h)
theorem wp_ite {c a b : E} (h : Wp (ev G C c en st) (fun x st => TruQ x st fun k => IfQ k (Wp (ev G C a en st) Q X) (Wp (ev G C b en st) Q X)) X) : Wp (ev G C (.ite c a b) en st) Q X :=
  Wp.bind (Wp.tru (h.mono (fun x st h => by
    obtain ⟨k, e, h1, h2⟩ := h
    refine ⟨k, e, ?_⟩
    cases k with
    | true => exact h1 rfl
    | false => exact h2 rfl) fun _ _ h => h))
theorem wp_tup {es : E} (h : Wp (evs G C es en st) (fun ds st => ds.length ≤ sz ∧ Q (.tup ds) st) X) : Wp (ev G C (.tup es) en st) Q X :=
  Wp.bind (h.mono (fun ds st h => by rw [if_pos h.1]; exact h.2) fun _ _ h => h)
theorem wp_lst {es : E} (h : Wp (evs G C es en st) (fun ds st => ds.length ≤ sz ∧ Q (.lst ds) st) X) : Wp (ev G C (.lst false es) en st) Q X :=
  Wp.bind (h.mono (fun ds st h => by rw [if_pos h.1]; exact h.2) fun _ _ h => h)
theorem wp_lstM {es : E} (h : Wp (evs G C es en st) (fun ds st => ds.length ≤ sz ∧ Q (.loc st.length) (st ++ [.lst ds])) X) : Wp (ev G C (.lst true es) en st) Q X :=
  Wp.bind (h.mono (fun ds st h => by rw [if_pos h.1]; exact h.2) fun _ _ h => h)
theorem wp_edct (q : Q (.dct [] []) st) : Wp (ev G C .edct en st) Q X := q
theorem wp_idx {a b : E} (h : Wp (ev G C a en st) (fun x st => Wp (ev G C b en st) (fun y st => Wp (idxD x y st) Q noX) X) X) : Wp (ev G C (.idx a b) en st) Q X :=
  Wp.bind (h.mono (fun _ _ h => Wp.bind (h.mono (fun _ _ h => h.shut_) fun _ _ h => h)) fun _ _ h => h)
theorem wp_sl {a lo hi : E} (h : Wp (ev G C a en st) (fun x st => Wp (part G C lo en st) (fun l st => Wp (part G C hi en st) (fun u st => Wp (slD x l u st) Q noX) X) X) X) : Wp (ev G C (.sl a lo hi) en st) Q X :=
  Wp.bind (h.mono (fun _ _ h => Wp.bind (h.mono (fun _ _ h => Wp.bind (h.mono (fun _ _ h => h.shut_) fun _ _ h => h)) fun _ _ h => h)) fun _ _ h => h)
theorem wp_partN {Q : Option Int → Sto → Prop} (q : Q none st) : Wp (part G C .nil en st) Q X := q
theorem wp_partS {Q : Option Int → Sto → Prop} {a : E} (h : Wp (ev G C a en st) (fun x st => IntQ x fun i => Q (some i) st) X) : Wp (part G C (.cons a .nil) en st) Q X :=
  Wp.bind (h.mono (fun x st h => by obtain ⟨i, rfl, q⟩ := h; exact q) fun _ _ h => h)
theorem wp_bcall {f : Bf} {es : E} (h : Wp (evs G C es en st) (fun ds st => Wp (bf f ds st) Q noX) X) : Wp (ev G C (.bcall f es) en st) Q X :=
  Wp.bind (h.mono (fun _ _ h => h.shut_) fun _ _ h => h)
theorem wp_call {f : Nat} {es : E} (h : Wp (evs G C es en st) (fun ds st => Wp (C f ds st) Q X) X) : Wp (ev G C (.call f es) en st) Q X := Wp.bind h
theorem wp_callk {f : Nat} {k : Str} {e : E} (h : Wp (ev G C e en st) (fun d st => Wp (C f [d] st) Q X) X) : Wp (ev G C (.callk f k e) en st) Q X := Wp.bind h
theorem wp_nilL {Q : List D → Sto → Prop} (q : Q [] st) : Wp (evs G C .nil en st) Q X := q
theorem wp_consL {Q : List D → Sto → Prop} {a r : E} (h : Wp (ev G C a en st) (fun x st => Wp (evs G C r en st) (fun xs st => Q (x :: xs) st) X) X) : Wp (evs G C (.cons a r) en st) Q X :=
  Wp.bind (h.mono (fun _ _ h => Wp.bind h) fun _ _ h => h)
theorem wp_condN {Q : Bool → Sto → Prop} (q : Q true st) : Wp (evc G C .nil en st) Q X := q
theorem wp_condS {Q : Bool → Sto → Prop} {a : E} (h : Wp (ev G C a en st) (fun d st => TruQ d st fun b => Q b st) X) : Wp (evc G C (.cons a .nil) en st) Q X := Wp.tru h
theorem wp_lc {k : Ik} {is : List Nat} {un : Bool} {own : List (Str × Nat)} {src cond elt : E}
    (h : Wp (evs G C src en st) (fun ds st => SoQ (walkOf G k ds st) fun xs => Wp (lcRun is un (evc G C cond) (ev G C elt) xs (wipeE en (own.map (·.2))) st []) (fun r st => Q (.lst r) st) noX) X) : Wp (ev G C (.lc k is un own src cond elt) en st) Q X :=
  Wp.bind (h.mono (fun ds st h => by
    obtain ⟨xs, e, h⟩ := h
    rw [e]
    exact Wp.bind h.shut_) fun _ _ h => h)
/-- a comprehension without a test whose parts change nothing -/
theorem wp_lc_map {is : List Nat} {un : Bool} {elt : En → Sto → R D} {en : En} {st : Sto} {Q : List D → Sto → Prop} (f : D → D) {xs : List D} (h : ∀ x ∈ xs, ∃ en', setT is un x en = some en' ∧ elt en' st = .ok (f x) st) (hl : xs.length ≤ sz) (q : Q (xs.map f) st) :
    Wp (lcRun is un (evc G C .nil) elt xs en st []) Q noX := by
  have : ∀ (xs acc : List D), (∀ x ∈ xs, ∃ en', setT is un x en = some en' ∧ elt en' st = .ok (f x) st) → acc.length + xs.length ≤ sz → lcRun is un (evc G C .nil) elt xs en st acc = .ok (acc ++ xs.map f) st := by
    intro xs
    induction xs with
    | nil => intro acc _ _; simp [lcRun]
    | cons x xs ih =>
      intro acc h hl
      obtain ⟨en', e1, e2⟩ := h x (by simp)
      unfold lcRun
      rw [List.length_cons] at hl
      rw [e1]
      show ((R.ok true st).bind _) = _
      simp only [R.bind_ok, e2]
      rw [if_pos (by omega), ih (acc ++ [f x]) (fun y hy => h y (List.mem_cons_of_mem _ hy)) (by rw [List.length_append, List.length_cons, List.length_nil]; omega), List.map_cons, List.append_assoc]
      rfl
  rw [this xs [] h (by simpa using hl)]
  exact q
/-- a comprehension's turns: by what the turns keep -/
theorem lc_run {is : List Nat} {un : Bool} {cond : En → Sto → R Bool} {elt : En → Sto → R D} {en : En} {Q : List D → Sto → Prop} (I : List D → List D → Sto → Prop)
    (turn : ∀ x xs acc st, I (x :: xs) acc st → ∃ en', setT is un x en = some en' ∧ Wp (cond en' st) (fun b st => IfQ b (acc.length < sz ∧ Wp (elt en' st) (fun y st => I xs (acc ++ [y]) st) noX) (I xs acc st)) noX)
    (done : ∀ acc st, I [] acc st → Q acc st) : ∀ (xs acc : List D) (st : Sto), I xs acc st → Wp (lcRun is un cond elt xs en st acc) Q noX
  | [], acc, st, h => done acc st h
  | x :: xs, acc, st, h => by
    obtain ⟨en', e, t⟩ := turn x xs acc st h
    unfold lcRun
    rw [e]
    refine Wp.bind (t.mono (fun b st h => ?_) fun _ _ h => h)
    cases b with
    | true =>
      obtain ⟨hl, w⟩ := h.1 rfl
      refine Wp.bind (w.mono (fun y st h => ?_) fun _ _ h => h)
      rw [if_pos hl]
      exact lc_run I turn done xs _ st h
    | false => exact lc_run I turn done xs acc st (h.2 rfl)
end
section
variable {G : Gs} {C : Call} {en : En} {st : Sto} {Q : Fl → Sto → Prop} {X : Ex → En → Sto → Prop}
theorem ws_nil (q : Q (.nx en) st) : Ws (ex G C .nil en st) Q X := q
theorem ws_seq {a r : S} (h : Ws (ex G C a en st) (SqQ (fun en st => Ws (ex G C r en st) Q X) Q) X) : Ws (ex G C (.seq a r) en st) Q X := Ws.more h
theorem ws_pass (q : Q (.nx en) st) : Ws (ex G C .pass en st) Q X := q
theorem ws_expr {e : E} (h : Wp (ev G C e en st) (fun _ st => Q (.nx en) st) (fun x st => X x en st)) : Ws (ex G C (.expr e) en st) Q X := Wp.andS h
theorem ws_set {i : Nat} {e : E} (h : Wp (ev G C e en st) (fun d st => Q (.nx (en.set i (some d))) st) (fun x st => X x en st)) : Ws (ex G C (.set i e) en st) Q X := Wp.andS h
theorem ws_aug {i : Nat} {o : B2} {e : E} {x : D} (hx : en[i]? = some (some x)) (h : Wp (ev G C e en st) (fun y st => Wp (aug2 o x y st) (fun z st => Q (.nx (en.set i (some z))) st) (fun x st => X x en st)) (fun x st => X x en st)) : Ws (ex G C (.aug i o e) en st) Q X := by
  have e2 : ex G C (.aug i o e) en st = (ev G C e en st).andS en fun y st => (aug2 o x y st).andS en fun z st => .ok (.nx (en.set i (some z))) st := by
    show (match en[i]? with
      | some (some x) => (ev G C e en st).andS en fun y st => (aug2 o x y st).andS en fun z st => .ok (.nx (en.set i (some z))) st
      | _ => .bad) = _
    rw [hx]
  rw [e2]
  exact Wp.andS (h.mono (fun _ _ h => Wp.andS h) fun _ _ h => h)
theorem ws_asg {is : List Nat} {e : E} (h : Wp (ev G C e en st) (fun d st => SoQ (setT is true d en) fun en' => Q (.nx en') st) (fun x st => X x en st)) : Ws (ex G C (.asg is e) en st) Q X :=
  Wp.andS (h.mono (fun d st h => by obtain ⟨en', e, q⟩ := h; rw [e]; exact q) fun _ _ h => h)
theorem ws_par {is : List Nat} {es : E} (h : Wp (evs G C es en st) (fun d st => SoQ (setAll is d en) fun en' => Q (.nx en') st) (fun x st => X x en st)) : Ws (ex G C (.par is es) en st) Q X :=
  Wp.andS (h.mono (fun d st h => by obtain ⟨en', e, q⟩ := h; rw [e]; exact q) fun _ _ h => h)
theorem ws_setItem {a i v : E} (h : Wp (ev G C v en st) (fun z st => Wp (ev G C a en st) (fun x st => Wp (ev G C i en st) (fun y st => SoQ (storeD x y z st) fun st' => Q (.nx en) st') (fun x st => X x en st)) (fun x st => X x en st)) (fun x st => X x en st)) : Ws (ex G C (.setItem a i v) en st) Q X :=
  Wp.andS (h.mono (fun _ _ h => Wp.andS (h.mono (fun _ _ h => Wp.andS (h.mono (fun d st h => by obtain ⟨en', e, q⟩ := h; rw [e]; exact q) fun _ _ h => h)) fun _ _ h => h)) fun _ _ h => h)
theorem ws_ite {c : E} {a b : S} (h : Wp (ev G C c en st) (fun x st => TruQ x st fun k => IfQ k (Ws (ex G C a en st) Q X) (Ws (ex G C b en st) Q X)) (fun x st => X x en st)) : Ws (ex G C (.ite c a b) en st) Q X :=
  Wp.andS (Wp.tru (h.mono (fun x st h => by
    obtain ⟨k, e, h1, h2⟩ := h
    refine ⟨k, e, ?_⟩
    cases k with
    | true => exact h1 rfl
    | false => exact h2 rfl) fun _ _ h => h))
theorem ws_ret {e : E} (h : Wp (ev G C e en st) (fun d st => Q (.rt d) st) (fun x st => X x en st)) : Ws (ex G C (.ret e) en st) Q X := Wp.andS h
theorem ws_retN (q : Q (.rt .non) st) : Ws (ex G C .retN en st) Q X := q
theorem ws_brk (q : Q (.bk en) st) : Ws (ex G C .brk en st) Q X := q
theorem ws_cont (q : Q (.ct en) st) : Ws (ex G C .cont en st) Q X := q
theorem ws_loop {k : Ik} {is : List Nat} {un : Bool} {src : E} {b : S} (h : Wp (evs G C src en st) (fun ds st => SoQ (walkOf G k ds st) fun xs => Ws (forRun is un (ex G C b) xs en st) Q X) (fun x st => X x en st)) : Ws (ex G C (.loop k is un src b) en st) Q X :=
  Wp.andS (h.mono (fun d st h => by obtain ⟨en', e, q⟩ := h; rw [e]; exact q) fun _ _ h => h)
def TnQ (N : En → Sto → Prop) (Q : Fl → Sto → Prop) : Fl → Sto → Prop
  | .nx en, st => N en st
  | .ct en, st => N en st
  | .bk en, st => Q (.nx en) st
  | .rt d, st => Q (.rt d) st
theorem tnq_nx {N : En → Sto → Prop} {Q : Fl → Sto → Prop} {en : En} {st : Sto} (q : N en st) : TnQ N Q (.nx en) st := q
theorem tnq_ct {N : En → Sto → Prop} {Q : Fl → Sto → Prop} {en : En} {st : Sto} (q : N en st) : TnQ N Q (.ct en) st := q
theorem tnq_bk {N : En → Sto → Prop} {Q : Fl → Sto → Prop} {en : En} {st : Sto} (q : Q (.nx en) st) : TnQ N Q (.bk en) st := q
theorem tnq_rt {N : En → Sto → Prop} {Q : Fl → Sto → Prop} {d : D} {st : Sto} (q : Q (.rt d) st) : TnQ N Q (.rt d) st := q
/-- a walk, by what its turns keep -/
theorem for_run {is : List Nat} {un : Bool} {body : En → Sto → RS} (I : List D → En → Sto → Prop)
    (turn : ∀ x xs en st, I (x :: xs) en st → ∃ en', setT is un x en = some en' ∧ Ws (body en' st) (TnQ (I xs) Q) X)
    (done : ∀ en st, I [] en st → Q (.nx en) st) : ∀ (xs : List D) (en : En) (st : Sto), I xs en st → Ws (forRun is un body xs en st) Q X
  | [], en, st, h => done en st h
  | x :: xs, en, st, h => by
    obtain ⟨en', e, t⟩ := turn x xs en st h
    unfold forRun
    rw [e]
    show Ws ((body en' st).turn _) Q X
    generalize body en' st = r at t
    cases r with
    | ok fl st => cases fl with
      | nx en => exact for_run I turn done xs en st t
      | ct en => exact for_run I turn done xs en st t
      | bk en => exact t
      | rt d => exact t
    | exc y en st => exact t
    | bad => exact t
/-- a def's run -/
def RtQ (Q : D → Sto → Prop) : Fl → Sto → Prop
  | .nx _, st => Q .non st
  | .rt v, st => Q v st
  | _, _ => False
theorem rtq_nx {Q : D → Sto → Prop} {en : En} {st : Sto} (q : Q .non st) : RtQ Q (.nx en) st := q
theorem rtq_rt {Q : D → Sto → Prop} {v : D} {st : Sto} (q : Q v st) : RtQ Q (.rt v) st := q
theorem wp_run {G : Gs} {C : Call} {d : Df} {ds es : List D} {st : Sto} {Q : D → Sto → Prop} {X : Ex → Sto → Prop} {en : En} (hl : fullD d ds = some es) (he : es.map some ++ List.replicate (d.N.length - es.length) none = en)
    (h : Ws (ex G C d.b en st) (RtQ Q) fun x _ st => X x st) : Wp (runD G C d ds st) Q X := by
  unfold runD
  rw [hl]
  show Wp (bodyD G C d es st) Q X
  unfold bodyD
  rw [he]
  generalize ex G C d.b _ st = r at h
  cases r with
  | ok fl st => cases fl <;> exact h
  | exc y en st => exact h
  | bad => exact h
theorem Wp_eq {r : R D} {v : D} {st : Sto} (h : Wp r (fun a s => a = v ∧ s = st) noX) : r = .ok v st := by
  obtain ⟨a, s, e, rfl, rfl⟩ := h.ok_inv
  exact e
end
end Mi

set_option maxRecDepth 100000
set_option maxHeartbeats 1000000
/-! running the small language by simp: the head first -/
namespace Mi
open PySem PySem.Spec L2
theorem bind_hd {α β : Type} {r r' : R α} {f : α → Sto → R β} (h : r = r') : r.bind f = r'.bind f := by rw [h]
theorem andS_hd {α : Type} {r r' : R α} {en : En} {f : α → Sto → RS} (h : r = r') : r.andS en f = r'.andS en f := by rw [h]
theorem more_hd {r r' : RS} {f : En → Sto → RS} (h : r = r') : r.more f = r'.more f := by rw [h]
theorem turn_hd {r r' : RS} {f : En → Sto → RS} (h : r = r') : r.turn f = r'.turn f := by rw [h]
theorem lc_hd {is : List Nat} {un : Bool} {cond : En → Sto → R Bool} {elt : En → Sto → R D} {xs xs' : List D} {en en' : En} {st st' : Sto} {acc : List D} (h1 : xs = xs') (h2 : en = en') (h3 : st = st') : lcRun is un cond elt xs en st acc = lcRun is un cond elt xs' en' st' acc := by rw [h1, h2, h3]
theorem for_hd {is : List Nat} {un : Bool} {body : En → Sto → RS} {xs xs' : List D} {en en' : En} {st st' : Sto} (h1 : xs = xs') (h2 : en = en') (h3 : st = st') : forRun is un body xs en st = forRun is un body xs' en' st' := by rw [h1, h2, h3]
theorem whl_hd {cond : En → Sto → R Bool} {body : En → Sto → RS} {n : Nat} {en en' : En} {st st' : Sto} (h2 : en = en') (h3 : st = st') : whlRun cond body n en st = whlRun cond body n en' st' := by rw [h2, h3]
theorem modD_ok {i j : Int} (st : Sto) (h : 0 < j) : modD (.int i) (.int j) st = .ok (.int (i % j)) st := if_pos h
theorem divD_ok {i j : Int} (st : Sto) (h : 0 < j) (h2 : j < 1073741824) : divD (.int i) (.int j) st = .ok (.int (i / j)) st := if_pos ⟨h, h2⟩
theorem mulD_l {i j : Int} (st : Sto) (h : i.natAbs < 2 ^ 64) : mulD (.int i) (.int j) st = .ok (.int (i * j)) st := if_pos (.inl h)
theorem mulD_r {i j : Int} (st : Sto) (h : j.natAbs < 2 ^ 64) : mulD (.int i) (.int j) st = .ok (.int (i * j)) st := if_pos (.inr h)
theorem addD_i (i j : Int) (st : Sto) : addD (.int i) (.int j) st = .ok (.int (i + j)) st := rfl
theorem subD_i (i j : Int) (st : Sto) : subD (.int i) (.int j) st = .ok (.int (i - j)) st := rfl
theorem tru_b (b : Bool) (st : Sto) : tru (.ok (.bl b) st) = .ok b st := rfl
theorem idx_l {d : D} {st : Sto} {ds : List D} {k : Int} {x : D} (h : itemsOf d st = some ds) (e : L2.atI ds k = some x) : idxD d (.int k) st = .ok x st := by
  unfold idxD
  rw [h]
  simp only [e]
theorem store_l {n : Nat} {st : Sto} {ds : List D} {k : Int} {j : Nat} (v : D) (h : st[n]? = some (.lst ds)) (hj : L2.ixN ds.length k = some j) : storeD (.loc n) (.int k) v st = some (st.set n (.lst (ds.set j v))) := by
  simp only [storeD, h, hj]
theorem powD_ok {i j : Int} (st : Sto) (h : 0 ≤ j) (h2 : (i.natAbs.log2 + 1) * j.toNat ≤ 134217728) : powD (.int i) (.int j) st = .ok (.int (i ^ j.toNat)) st := if_pos ⟨h, h2⟩
theorem log2_lt {n k : Nat} (h : n < 2 ^ k) : n.log2 < k ∨ n = 0 := by
  by_cases e : n = 0
  · exact .inr e
  · exact .inl ((Nat.log2_lt e).mpr h)
theorem set_get {st : Sto} {n : Nat} {b c : Ob} (h : st[n]? = some c) : (st.set n b)[n]? = some b := List.getElem?_set_self (List.getElem?_eq_some_iff.mp h).1
theorem items_set {st : Sto} {n : Nat} {ds : List D} {c : Ob} (h : st[n]? = some c) : itemsOf (.loc n) (st.set n (.lst ds)) = some ds := by
  simp only [itemsOf, set_get h]

/-- a comprehension whose parts change nothing -/
theorem lc_map {is : List Nat} {un : Bool} {cond : En → Sto → R Bool} {elt : En → Sto → R D} {en : En} {st : Sto} (f : D → D) (hc : ∀ en st, cond en st = .ok true st) :
    ∀ (xs acc : List D), (∀ x ∈ xs, ∃ en', setT is un x en = some en' ∧ elt en' st = .ok (f x) st) → acc.length + xs.length ≤ sz → lcRun is un cond elt xs en st acc = .ok (acc ++ xs.map f) st
  | [], acc, _, _ => by simp [lcRun]
  | x :: xs, acc, h, hl => by
    obtain ⟨en', e1, e2⟩ := h x (by simp)
    unfold lcRun
    rw [List.length_cons] at hl
    simp only [e1, hc, R.bind_ok, e2]
    rw [if_pos (by omega), lc_map f hc xs (acc ++ [f x]) (fun y hy => h y (List.mem_cons_of_mem _ hy)) (by rw [List.length_append, List.length_cons, List.length_nil]; omega), List.map_cons, List.append_assoc]
    rfl
theorem all_map (f : D → Bool) (ds : List D) (st : Sto) : allD [.lst (ds.map fun d => .bl (f d))] st = .ok (.bl (ds.all f)) st := by
  have e : (ds.map fun d => D.bl (f d)) = (ds.map f).map D.bl := by rw [List.map_map]; rfl
  simp only [allD, e, boolsOf_map, List.all_map]
  rfl

theorem ev_lc_of {G : Gs} {C : Call} {k : Ik} {is : List Nat} {un : Bool} {own : List (Str × Nat)} {src cond elt : E} {en : En} {st st1 st2 : Sto} {ds xs r : List D} (hs : evs G C src en st = .ok ds st1) (hw : walkOf G k ds st1 = some xs)
    (hl : lcRun is un (evc G C cond) (ev G C elt) xs (wipeE en (own.map (·.2))) st1 [] = .ok r st2) : ev G C (.lc k is un own src cond elt) en st = .ok (.lst r) st2 := by
  simp only [ev, hs, R.bind_ok, hw]
  rw [hl]
  rfl
theorem ex_loop_of {G : Gs} {C : Call} {k : Ik} {is : List Nat} {un : Bool} {src : E} {b : S} {en : En} {st st1 : Sto} {ds xs : List D} (hs : evs G C src en st = .ok ds st1) (hw : walkOf G k ds st1 = some xs) :
    ex G C (.loop k is un src b) en st = forRun is un (ex G C b) xs en st1 := by
  simp only [ex, hs, R.andS_ok, hw]
end Mi

set_option maxRecDepth 100000
set_option maxHeartbeats 4000000
namespace K06
open PySem PySem.Spec L2 Mi
local macro_rules | `(tactic| fail "mi e") => `(tactic| with_reducible first
  | (apply wp_var; next => with_unfolding_all rfl) | refine wp_int ?_ | refine wp_str ?_ | refine wp_bool ?_ | refine wp_non ?_ | refine wp_ty ?_
  | refine wp_nilL ?_ | refine wp_consL ?_ | refine wp_cmp ?_ | refine wp_bcall ?_ | refine wp_idx ?_ | refine wp_bin ?_ | refine wp_call ?_
  | refine wp_and ?_ | refine wp_or ?_ | refine wp_not ?_ | refine wp_chain ?_ | refine wp_ite ?_ | refine wp_tup ?_ | refine wp_lst ?_ | refine wp_lstM ?_
  | refine wp_edct ?_ | refine wp_sl ?_ | refine wp_partN ?_ | refine wp_partS ?_ | refine wp_callk ?_ | refine wp_lc ?_ | refine wp_condN ?_ | refine wp_condS ?_
  | refine wp_neg ?_ | refine wp_rev ?_ | refine wp_sset ?_ | refine wp_upper ?_ | refine wp_isn ?_ | refine wp_notn ?_)
local macro_rules | `(tactic| fail "mi s") => `(tactic| with_reducible first
  | refine ws_seq ?_ | refine ws_nil ?_ | refine ws_ite ?_ | refine ws_set ?_ | refine ws_ret ?_ | refine ws_expr ?_ | refine ws_asg ?_ | refine ws_par ?_ | refine ws_setItem ?_
  | refine ws_pass ?_ | refine ws_retN ?_ | refine ws_brk ?_ | refine ws_cont ?_ | refine ws_loop ?_ | (apply ws_aug; next => with_unfolding_all rfl))
local macro_rules | `(tactic| fail "mi b1") => `(tactic| with_reducible first
  | refine tq_bl ?_ | refine tq_int ?_ | refine tq_tup ?_ | refine tq_lst ?_ | refine tq_non ?_ | refine cq_bl ?_ | refine iq_int ?_ | refine if_t ?_ | refine if_f ?_ | refine if_n ?_ | refine so_some ?_
  | (apply if_dt; next => assumption) | (apply if_df; next => assumption) | (refine if_d ?_ ?_ <;> intro hb) | (apply if_et; next => assumption) | (apply if_en; next => assumption) | (apply if_nt; next => assumption) | (apply if_nn; next => assumption) | (refine if_eq ?_ ?_ <;> intro hb) | (refine if_ne ?_ ?_ <;> intro hb) | (apply if_bt; next => assumption) | (apply if_bf; next => assumption) | (refine if_b ?_ ?_ <;> intro hb) | (apply tq_of; next => assumption) | (apply so_of; next => assumption))
local macro_rules | `(tactic| fail "mi b") => `(tactic| first
  | fail "mi b1" | (with_reducible apply so_of; next => with_unfolding_all rfl) | (with_reducible refine And.intro ?_ ?_; next => (simp only [List.length_cons, List.length_nil]; decide)))
local macro_rules | `(tactic| fail "mi n") => `(tactic| first | decide | assumption | omega | apply_assumption)
local macro_rules | `(tactic| fail "mi r") => `(tactic| ((try dsimp only [b2, c2, bf]); with_unfolding_all first | with_reducible assumption | rfl | assumption | exact modD_ok _ (by fail "mi n") | exact divD_ok _ (by fail "mi n") (by fail "mi n") | exact mulD_l _ (by fail "mi n") | exact mulD_r _ (by fail "mi n") | exact powD_ok _ (by fail "mi n") (by fail "mi n")))
local macro_rules | `(tactic| fail "mi") => `(tactic| first
  | fail "mi s" | fail "mi e" | (with_reducible apply wp_glo; next => with_unfolding_all rfl) | (with_reducible refine sqq_nx ?_) | (with_reducible refine sqq_rt ?_) | (with_reducible refine sqq_ct ?_) | (with_reducible refine sqq_bk ?_) | (with_reducible refine tnq_nx ?_) | (with_reducible refine tnq_rt ?_) | (with_reducible refine tnq_ct ?_) | (with_reducible refine tnq_bk ?_)
  | (with_reducible refine rtq_rt ?_) | (with_reducible refine rtq_nx ?_)
  | fail "mi b"
  | (with_reducible apply Wp.ok; next => with_reducible assumption)
  | (with_reducible first | (apply ok_b2; next => fail "mi r") | (apply ok_c2; next => fail "mi r") | (apply ok_bf; next => fail "mi r") | (apply ok_idx; next => fail "mi r") | (apply ok_neg; next => fail "mi r") | (apply ok_sl; next => fail "mi r") | (apply ok_rev; next => fail "mi r") | (apply ok_sset; next => fail "mi r") | (apply ok_upper; next => fail "mi r") | (apply ok_aug; next => fail "mi r")))
abbrev Cn (n : Nat) : Call := callN gM (tabD tabT) n
theorem c_take (n : Nat) (ds : List D) (st : Sto) : Cn (n + 1) 580 ds st = runD gM (Cn n) dlawtake ds st := rfl
theorem c_of (n : Nat) (ds : List D) (st : Sto) : Cn (n + 1) 473 ds st = runD gM (Cn n) dlawof ds st := rfl
theorem c_pot (n : Nat) (ds : List D) (st : Sto) : Cn (n + 1) 514 ds st = runD gM (Cn n) dlawpot ds st := rfl
theorem c_caught (n : Nat) (ds : List D) (st : Sto) : Cn (n + 1) 309 ds st = runD gM (Cn n) dlawcaught ds st := rfl
theorem c_cases (n : Nat) (ds : List D) (st : Sto) : Cn (n + 1) 308 ds st = runD gM (Cn n) dlawcases ds st := rfl
theorem c_right (n : Nat) (ds : List D) (st : Sto) : Cn (n + 1) 529 ds st = runD gM (Cn n) dlawright ds st := rfl
theorem c_law (n : Nat) (ds : List D) (st : Sto) : Cn (n + 1) 822 ds st = runD gM (Cn n) dlaw ds st := rfl
/-- the pot at a place: at most c draws by hand were made -/
def Pot (pn : Nat) (c : Nat) (st : Sto) : Prop := ∃ own mixed cnt : Int, st[pn]? = some (.lst [.int own, .int mixed, .int cnt]) ∧ 0 ≤ own ∧ 0 ≤ mixed ∧ mixed < 2305843009213693951 ∧ 0 ≤ cnt ∧ cnt ≤ c
/-- all but the pot stays -/
def Fr (pn : Nat) (st st' : Sto) : Prop := st'.length = st.length ∧ ∀ m, m ≠ pn → st'[m]? = st[m]?
theorem Fr.refl {pn : Nat} {st : Sto} : Fr pn st st := ⟨rfl, fun _ _ => rfl⟩
theorem Fr.set {pn : Nat} {st : Sto} {b : Ob} : Fr pn st (st.set pn b) := ⟨by simp, fun m h => List.getElem?_set_ne (Ne.symm h)⟩
theorem Fr.trans {pn : Nat} {a b c : Sto} (h : Fr pn a b) (g : Fr pn b c) : Fr pn a c := ⟨g.1.trans h.1, fun m n => (g.2 m n).trans (h.2 m n)⟩
theorem ix_l {n : Nat} {st : Sto} {ds : List D} {k : Int} {x : D} (h : st[n]? = some (.lst ds)) (e : L2.atI ds k = some x) : idxD (.loc n) (.int k) st = .ok x st := idx_l (by simp only [itemsOf, h]) e
theorem take_ok {pn c : Nat} {st : Sto} (n : Nat) (u : Int) (P : Pot pn c st) (hc : c < 99999) (hu : 0 < u) (hu2 : u < 1000) :
    Wp (Cn (n + 1) 580 [.loc pn, .int u] st) (fun a st' => ∃ r : Int, a = .int r ∧ 0 ≤ r ∧ r < u ∧ Pot pn (c + 1) st' ∧ Fr pn st st') noX := by
  obtain ⟨own, mixed, cnt, h, h1, h2, h3, h4, h5⟩ := P
  rw [c_take]
  refine wp_run (en := [some (.loc pn), some (.int u), none, none, none]) rfl rfl ?_
  unfold dlawtake
  have g0 := ix_l (k := 0) (x := .int own) h rfl
  have g2 := ix_l (k := 2) (x := .int cnt) h rfl
  repeat' fail "mi"
  · rename_i ho
    have m1 := modD_ok (i := own) st hu
    have d1 := divD_ok (i := own) st hu (show u < 1073741824 by omega)
    repeat' fail "mi"
    refine so_of (store_l (j := 0) _ h rfl) ?_
    repeat' fail "mi"
    exact ⟨_, rfl, Int.emod_nonneg _ (by omega), Int.emod_lt_of_pos _ hu, ⟨own / u, mixed, cnt, set_get h, Int.ediv_nonneg h1 (by omega), h2, h3, h4, by omega⟩, Fr.set⟩
  · refine so_of (store_l (j := 2) _ h rfl) ?_
    have hS : (st.set pn (.lst [.int own, .int mixed, .int (cnt + 1)]))[pn]? = some (.lst [.int own, .int mixed, .int (cnt + 1)]) := set_get h
    have hF : Fr pn st (st.set pn (.lst [.int own, .int mixed, .int (cnt + 1)])) := Fr.set
    generalize hst : st.set pn (.lst [.int own, .int mixed, .int (cnt + 1)]) = st2 at hS hF
    have e1 : [D.int own, D.int mixed, D.int cnt].set 2 (D.int (cnt + 1)) = [.int own, .int mixed, .int (cnt + 1)] := rfl
    rw [e1, hst]
    have k2 := ix_l (k := 2) (x := .int (cnt + 1)) hS rfl
    have k1 := ix_l (k := 1) (x := .int mixed) hS rfl
    have hp : ∃ p : Int, 0 < p ∧ p < 2147483648 ∧ idxD (.lst [D.int 2147483647, .int 2147483629, .int 2147483587, .int 2147483579, .int 2147483563]) (.int ((cnt + 1) % 5)) st2 = .ok (.int p) st2 := by
      have : (cnt + 1) % 5 = 0 ∨ (cnt + 1) % 5 = 1 ∨ (cnt + 1) % 5 = 2 ∨ (cnt + 1) % 5 = 3 ∨ (cnt + 1) % 5 = 4 := by omega
      rcases this with e | e | e | e | e <;> rw [e]
      · exact ⟨2147483647, by decide, by decide, rfl⟩
      · exact ⟨2147483629, by decide, by decide, rfl⟩
      · exact ⟨2147483587, by decide, by decide, rfl⟩
      · exact ⟨2147483579, by decide, by decide, rfl⟩
      · exact ⟨2147483563, by decide, by decide, rfl⟩
    obtain ⟨p, hp0, hp1, hp⟩ := hp
    have l1 : ((mixed + 99041 * (cnt + 1) * (cnt + 1) + 37).natAbs.log2 + 1) * 3 ≤ 134217728 := by
      have q : (mixed + 99041 * (cnt + 1) * (cnt + 1) + 37).natAbs < 2 ^ 64 := by
        have h1 : 99041 * (cnt + 1) * (cnt + 1) ≤ 99041 * 100000 * 100000 := Int.mul_le_mul (by omega) (by omega) (by omega) (by omega)
        have h0 : 0 ≤ 99041 * (cnt + 1) * (cnt + 1) := Int.mul_nonneg (by omega) (by omega)
        omega
      rcases log2_lt q with z | z
      · omega
      · rw [z]; decide
    have l2 : (99041 : Int).natAbs < 2 ^ 64 := by decide
    have l3 : (cnt + 1).natAbs < 2 ^ 64 := by omega
    have l4 : (83 : Int).natAbs < 2 ^ 64 := by decide
    have l5 : ∀ x : Int, (x % p).natAbs < 2 ^ 64 := fun x => by
      have := Int.emod_nonneg x (show p ≠ 0 by omega)
      have := Int.emod_lt_of_pos x hp0
      omega
    have pw := powD_ok st2 (show (0:Int) ≤ 3 by decide) l1
    repeat' fail "mi"
    exact ⟨_, rfl, Int.emod_nonneg _ (by omega), Int.emod_lt_of_pos _ hu, ⟨own, mixed, cnt + 1, hS, h1, h2, h3, by omega, by omega⟩, hF⟩
theorem atI_mem {ds : List D} {r : Int} (h0 : 0 ≤ r) (h1 : r < ds.length) : ∃ d ∈ ds, L2.atI ds r = some d := by
  have hl : r.toNat < ds.length := by omega
  refine ⟨ds[r.toNat], List.getElem_mem hl, ?_⟩
  unfold L2.atI L2.ixN
  rw [if_pos h0, if_pos h1]
  exact List.getElem?_eq_getElem hl
/-- what a sequence holds, whatever becomes of the pot -/
def Sq (pn : Nat) (d : D) (st : Sto) (ds : List D) : Prop := d = .lst ds ∨ ∃ m, d = .loc m ∧ m ≠ pn ∧ st[m]? = some (.lst ds)
theorem Sq.items {pn : Nat} {d : D} {st st' : Sto} {ds : List D} (h : Sq pn d st ds) (f : Fr pn st st') : itemsOf d st' = some ds := by
  rcases h with rfl | ⟨m, rfl, hm, e⟩
  · rfl
  · simp only [itemsOf, f.2 m hm, e]
theorem Sq.fr {pn : Nat} {d : D} {st st' : Sto} {ds : List D} (h : Sq pn d st ds) (f : Fr pn st st') : Sq pn d st' ds := by
  rcases h with rfl | ⟨m, rfl, hm, e⟩
  · exact .inl rfl
  · exact .inr ⟨m, rfl, hm, (f.2 m hm).trans e⟩
theorem Sq.len {pn : Nat} {d : D} {st : Sto} {ds : List D} (h : Sq pn d st ds) : lenD [d] st = .ok (.int ds.length) st := by
  have e := h.items Fr.refl
  rcases h with rfl | ⟨m, rfl, hm, _⟩
  · rfl
  · simp only [lenD, e]
theorem of_ok {pn c : Nat} {st : Sto} (n : Nat) {s : D} (ds : List D) (P : Pot pn c st) (S : Sq pn s st ds) (hc : c < 99999) (hl : 0 < ds.length) (hl2 : ds.length < 1000) :
    Wp (Cn (n + 2) 473 [.loc pn, s] st) (fun d st' => d ∈ ds ∧ Pot pn (c + 1) st' ∧ Fr pn st st') noX := by
  rw [c_of]
  refine wp_run (en := [some (.loc pn), some s]) rfl rfl ?_
  unfold dlawof
  have el := S.len
  repeat' fail "mi"
  refine (take_ok n (ds.length : Int) P hc (by omega) (by omega)).to fun a st' h => ?_
  obtain ⟨r, rfl, r0, r1, P', F⟩ := h
  obtain ⟨d, hd, ed⟩ := atI_mem r0 r1
  have e := idx_l (S.items F) ed
  repeat' fail "mi"
  exact ⟨hd, P', F⟩
end K06

set_option maxRecDepth 100000
set_option maxHeartbeats 0
namespace K06
open PySem PySem.Spec L2 Mi
/-! the cases, run by the kernel -/
def isoB : S → S
  | .iso _ _ b => b
  | .seq _ r => isoB r
  | _ => .nil
def caughtB : S := isoB dlawcaught.b
def casesB : S := isoB dlawcases.b
def told : List Nat := [116, 111, 108, 100]
def exC (tx : List Nat) : RS := ex gM (callN gM (tabD tabT) 57) caughtB [some (.str tx), none, none] []
def exK (l : List Nat) : RS := ex gM (callN gM (tabD tabT) 57) casesB [none, none, none, some (.str l), some (.loc 0), none, none, none, none, none, none, none, none] [.lst []]
def joinP (page : List D) : Option (List Nat) := match strsOf page with
  | some ys => if (ys.map (·.length)).sum + ys.length * [10].length ≤ 16777216 then some (nOf (Txt.join (sOf [10]) ys)) else none
  | none => none
def okV (v due : D) : Bool := match due, v with
  | .non, .str s => decide (s = told)
  | .int i, .int j => decide (i = j)
  | _, _ => false
def okR (due : D) : RS → Bool
  | .ok (.rt v) _ => lf v && okV v due
  | _ => false
def okT : D → Bool
  | .tup [.lst page, due] => (match joinP page with
    | some tx => okR due (exC tx)
    | none => false)
  | _ => false
def okI (items : List D) : Bool := lfs items && (decide (0 < items.length) && (decide (items.length < 1000) && items.all okT))
def okL (l : List Nat) : Bool := match exK l with
  | .ok (.rt (.loc r)) st1 => (match st1[r]? with
    | some (.lst items) => okI items
    | _ => false)
  | _ => false
/-! alike -/
mutual
def eqW : D → D → Bool
  | .non, .non => true
  | .int i, .int j => decide (i = j)
  | .str a, .str b => decide (a = b)
  | .tup a, .tup b => eqWs a b
  | .lst a, .lst b => eqWs a b
  | _, _ => false
def eqWs : List D → List D → Bool
  | [], [] => true
  | a :: as, b :: bs => eqW a b && eqWs as bs
  | _, _ => false
end
mutual
theorem eqW_ok : ∀ (a b : D), eqW a b = true → a = b
  | .non, .non, _ => rfl
  | .int i, .int j, h => by
    have h' : decide (i = j) = true := h
    rw [of_decide_eq_true h']
  | .str a, .str b, h => by
    have h' : decide (a = b) = true := h
    rw [of_decide_eq_true h']
  | .tup a, .tup b, h => by rw [eqWs_ok a b h]
  | .lst a, .lst b, h => by rw [eqWs_ok a b h]
theorem eqWs_ok : ∀ (a b : List D), eqWs a b = true → a = b
  | [], [], _ => rfl
  | a :: as, b :: bs, h => by
    have h' : (eqW a b && eqWs as bs) = true := h
    rw [Bool.and_eq_true] at h'
    rw [eqW_ok a b h'.1, eqWs_ok as bs h'.2]
end
def okK (l : List Nat) (items : List D) : Bool := match exK l with
  | .ok (.rt (.loc r)) st1 => (match st1[r]? with
    | some (.lst ds) => eqWs ds items
    | _ => false)
  | _ => false
theorem okL_by {l : List Nat} {items : List D} (h : okK l items = true) (h2 : okI items = true) : okL l = true := by
  unfold okK at h
  unfold okL
  cases e : exK l with
  | bad => rw [e] at h; cases h
  | exc _ _ _ => rw [e] at h; cases h
  | ok f st1 =>
    rw [e] at h
    cases f <;> first | (cases h; done) | skip
    rename_i d
    cases d <;> first | (cases h; done) | skip
    rename_i r
    dsimp only at h ⊢
    cases q : st1[r]? with
    | none => rw [q] at h; cases h
    | some o =>
      rw [q] at h
      cases o <;> first | (cases h; done) | skip
      dsimp only at h ⊢
      rw [eqWs_ok _ _ h]
      exact h2
def it0 : D := .tup [.lst [.str [107, 105, 110, 100, 32, 107, 112], .str [107, 105, 110, 100, 32, 107, 113], .str [107, 105, 110, 100, 32, 107, 114], .str [107, 105, 110, 100, 32, 107, 115], .str [112, 97, 115, 115], .str [32, 32, 98, 101, 103, 105, 110], .str [32, 32, 32, 32, 108, 105, 110, 101, 32, 113, 32, 120]], .non]
theorem ok_it0 : okT it0 = true := by decide +kernel
def it1 : D := .tup [.lst [.str [107, 105, 110, 100, 32, 107, 112], .str [107, 105, 110, 100, 32, 107, 113], .str [107, 105, 110, 100, 32, 107, 114], .str [107, 105, 110, 100, 32, 107, 115], .str [107, 105, 110, 100, 32, 107, 116], .str [112, 97, 115, 115], .str [32, 32, 98, 101, 103, 105, 110], .str [32, 32, 32, 32, 108, 105, 110, 101, 32, 113, 32, 120]], .int 5]
theorem ok_it1 : okT it1 = true := by decide +kernel
def it2 : D := .tup [.lst [.str [107, 105, 110, 100, 32, 107, 112], .str [107, 105, 110, 100, 32, 107, 113, 32, 105, 110, 32, 107, 112], .str [107, 105, 110, 100, 32, 107, 114, 32, 105, 110, 32, 107, 113], .str [112, 97, 115, 115], .str [32, 32, 98, 101, 103, 105, 110], .str [32, 32, 32, 32, 108, 105, 110, 101, 32, 113, 32, 120]], .non]
theorem ok_it2 : okT it2 = true := by decide +kernel
def it3 : D := .tup [.lst [.str [107, 105, 110, 100, 32, 107, 112], .str [107, 105, 110, 100, 32, 107, 113, 32, 105, 110, 32, 107, 112], .str [107, 105, 110, 100, 32, 107, 114, 32, 105, 110, 32, 107, 113], .str [107, 105, 110, 100, 32, 107, 115, 32, 105, 110, 32, 107, 114], .str [112, 97, 115, 115], .str [32, 32, 98, 101, 103, 105, 110], .str [32, 32, 32, 32, 108, 105, 110, 101, 32, 113, 32, 120]], .int 4]
theorem ok_it3 : okT it3 = true := by decide +kernel
def it4 : D := .tup [.lst [.str [107, 105, 110, 100, 32, 97], .str [32, 32, 102, 105, 101, 108, 100, 32, 102], .str [32, 32, 102, 105, 101, 108, 100, 32, 103], .str [112, 97, 115, 115], .str [32, 32, 98, 101, 103, 105, 110], .str [32, 32, 32, 32, 108, 105, 110, 101, 32, 113, 32, 120]], .non]
theorem ok_it4 : okT it4 = true := by decide +kernel
def it5 : D := .tup [.lst [.str [107, 105, 110, 100, 32, 97], .str [112, 97, 115, 115], .str [112, 97, 115, 115]], .non]
theorem ok_it5 : okT it5 = true := by decide +kernel
def it6 : D := .tup [.lst [.str [107, 105, 110, 100, 32, 97], .str [112, 97, 115, 115], .str [32, 32, 99, 101, 108, 108, 32, 109, 32, 50], .str [32, 32, 99, 101, 108, 108, 32, 110, 32, 50]], .non]
theorem ok_it6 : okT it6 = true := by decide +kernel
def it7 : D := .tup [.lst [.str [107, 105, 110, 100, 32, 97], .str [32, 32, 102, 105, 101, 108, 100, 32, 102], .str [32, 32, 102, 105, 101, 108, 100, 32, 103], .str [32, 32, 102, 105, 101, 108, 100, 32, 104], .str [112, 97, 115, 115], .str [32, 32, 98, 101, 103, 105, 110], .str [32, 32, 32, 32, 108, 105, 110, 101, 32, 113, 32, 120]], .int 4]
theorem ok_it7 : okT it7 = true := by decide +kernel
def it8 : D := .tup [.lst [.str [107, 105, 110, 100, 32, 97], .str [112, 97, 115, 115], .str [112, 97, 115, 115], .str [112, 97, 115, 115]], .int 4]
theorem ok_it8 : okT it8 = true := by decide +kernel
def it9 : D := .tup [.lst [.str [107, 105, 110, 100, 32, 97], .str [112, 97, 115, 115], .str [32, 32, 99, 101, 108, 108, 32, 109, 32, 50], .str [32, 32, 99, 101, 108, 108, 32, 110, 32, 50], .str [32, 32, 99, 101, 108, 108, 32, 111, 32, 50]], .int 5]
theorem ok_it9 : okT it9 = true := by decide +kernel
def it10 : D := .tup [.lst [.str [107, 105, 110, 100, 32, 107], .str [112, 97, 115, 115], .str [32, 32, 101, 110, 100], .str [32, 32, 32, 32, 108, 105, 110, 101, 32, 97, 32, 120], .str [32, 32, 32, 32, 108, 105, 110, 101, 32, 98, 32, 120], .str [32, 32, 32, 32, 108, 105, 110, 101, 32, 99, 32, 120], .str [32, 32, 32, 32, 108, 105, 110, 101, 32, 100, 32, 120], .str [32, 32, 32, 32, 108, 105, 110, 101, 32, 101, 32, 120], .str [32, 32, 32, 32, 108, 105, 110, 101, 32, 102, 32, 120]], .non]
theorem ok_it10 : okT it10 = true := by decide +kernel
def it11 : D := .tup [.lst [.str [107, 105, 110, 100, 32, 107], .str [112, 97, 115, 115], .str [32, 32, 111, 112, 101, 110, 32, 107], .str [32, 32, 32, 32, 108, 105, 110, 101, 32, 97, 32, 105, 115, 32, 105, 102, 32, 120, 32, 121, 32, 120, 32, 122]], .non]
theorem ok_it11 : okT it11 = true := by decide +kernel
def it12 : D := .tup [.lst [.str [107, 105, 110, 100, 32, 107], .str [112, 97, 115, 115], .str [32, 32, 99, 108, 111, 115, 101, 32, 107], .str [32, 32, 32, 32, 104, 101, 97, 100, 32, 97, 32, 107, 32, 105, 115, 32, 105, 102, 32, 120, 32, 121, 32, 120, 32, 122]], .non]
theorem ok_it12 : okT it12 = true := by decide +kernel
def it13 : D := .tup [.lst [.str [107, 105, 110, 100, 32, 107], .str [112, 97, 115, 115], .str [32, 32, 101, 110, 100], .str [32, 32, 32, 32, 108, 105, 110, 101, 32, 97, 32, 120], .str [32, 32, 32, 32, 108, 105, 110, 101, 32, 98, 32, 120], .str [32, 32, 32, 32, 108, 105, 110, 101, 32, 99, 32, 120], .str [32, 32, 32, 32, 108, 105, 110, 101, 32, 100, 32, 120], .str [32, 32, 32, 32, 108, 105, 110, 101, 32, 101, 32, 120], .str [32, 32, 32, 32, 108, 105, 110, 101, 32, 102, 32, 120], .str [32, 32, 32, 32, 108, 105, 110, 101, 32, 103, 32, 120]], .int 10]
theorem ok_it13 : okT it13 = true := by decide +kernel
def it14 : D := .tup [.lst [.str [107, 105, 110, 100, 32, 107], .str [112, 97, 115, 115], .str [32, 32, 111, 112, 101, 110, 32, 107], .str [32, 32, 32, 32, 108, 105, 110, 101, 32, 97, 32, 105, 115, 32, 105, 102, 32, 120, 32, 121, 32, 120, 32, 122, 32, 107]], .int 4]
theorem ok_it14 : okT it14 = true := by decide +kernel
def it15 : D := .tup [.lst [.str [107, 105, 110, 100, 32, 107], .str [112, 97, 115, 115], .str [32, 32, 99, 108, 111, 115, 101, 32, 107], .str [32, 32, 32, 32, 104, 101, 97, 100, 32, 97, 32, 107, 32, 105, 115, 32, 105, 102, 32, 120, 32, 121, 32, 120, 32, 122, 32, 107]], .int 4]
theorem ok_it15 : okT it15 = true := by decide +kernel
def it16 : D := .tup [.lst [.str [107, 105, 110, 100, 32, 107], .str [112, 97, 115, 115], .str [32, 32, 111, 112, 101, 110, 32, 107], .str [32, 32, 32, 32, 105, 102, 32, 107, 46, 107, 101, 121, 32, 105, 115, 32, 120], .str [32, 32, 32, 32, 32, 32, 105, 102, 32, 107, 46, 107, 101, 121, 32, 105, 115, 32, 120], .str [32, 32, 32, 32, 32, 32, 32, 32, 108, 105, 110, 101, 32, 97, 32, 120]], .non]
theorem ok_it16 : okT it16 = true := by decide +kernel
def it17 : D := .tup [.lst [.str [107, 105, 110, 100, 32, 107], .str [112, 97, 115, 115], .str [32, 32, 111, 112, 101, 110, 32, 107], .str [32, 32, 32, 32, 105, 102, 32, 107, 46, 107, 101, 121, 32, 105, 115, 32, 120], .str [32, 32, 32, 32, 32, 32, 105, 102, 32, 107, 46, 107, 101, 121, 32, 105, 115, 32, 120], .str [32, 32, 32, 32, 32, 32, 32, 32, 105, 102, 32, 107, 46, 107, 101, 121, 32, 105, 115, 32, 120], .str [32, 32, 32, 32, 32, 32, 32, 32, 32, 32, 108, 105, 110, 101, 32, 97, 32, 120]], .int 6]
theorem ok_it17 : okT it17 = true := by decide +kernel
def it18 : D := .tup [.lst [.str [107, 105, 110, 100, 32, 97, 97, 97, 97, 97, 97, 97, 97], .str [112, 97, 115, 115]], .non]
theorem ok_it18 : okT it18 = true := by decide +kernel
def it19 : D := .tup [.lst [.str [107, 105, 110, 100, 32, 107], .str [32, 32, 102, 105, 101, 108, 100, 32, 97, 97, 97, 97, 97, 97, 97, 97], .str [112, 97, 115, 115]], .non]
theorem ok_it19 : okT it19 = true := by decide +kernel
def it20 : D := .tup [.lst [.str [107, 105, 110, 100, 32, 107], .str [112, 97, 115, 115], .str [32, 32, 98, 101, 103, 105, 110], .str [32, 32, 32, 32, 108, 105, 110, 101, 32, 97, 97, 97, 97, 97, 97, 97, 97, 32, 120]], .non]
theorem ok_it20 : okT it20 = true := by decide +kernel
def it21 : D := .tup [.lst [.str [107, 105, 110, 100, 32, 107], .str [112, 97, 115, 115], .str [32, 32, 98, 101, 103, 105, 110], .str [32, 32, 32, 32, 108, 105, 110, 101, 32, 97, 32, 97, 97, 97, 97, 97, 97, 97, 97]], .non]
theorem ok_it21 : okT it21 = true := by decide +kernel
def it22 : D := .tup [.lst [.str [107, 105, 110, 100, 32, 97, 97, 97, 97, 97, 97, 97, 97, 97], .str [112, 97, 115, 115]], .int 1]
theorem ok_it22 : okT it22 = true := by decide +kernel
def it23 : D := .tup [.lst [.str [107, 105, 110, 100, 32, 107], .str [32, 32, 102, 105, 101, 108, 100, 32, 97, 97, 97, 97, 97, 97, 97, 97, 97], .str [112, 97, 115, 115]], .int 2]
theorem ok_it23 : okT it23 = true := by decide +kernel
def it24 : D := .tup [.lst [.str [107, 105, 110, 100, 32, 107], .str [112, 97, 115, 115], .str [32, 32, 98, 101, 103, 105, 110], .str [32, 32, 32, 32, 108, 105, 110, 101, 32, 97, 97, 97, 97, 97, 97, 97, 97, 97, 32, 120]], .int 4]
theorem ok_it24 : okT it24 = true := by decide +kernel
def it25 : D := .tup [.lst [.str [107, 105, 110, 100, 32, 107], .str [112, 97, 115, 115], .str [32, 32, 98, 101, 103, 105, 110], .str [32, 32, 32, 32, 108, 105, 110, 101, 32, 97, 32, 97, 97, 97, 97, 97, 97, 97, 97, 97]], .int 4]
theorem ok_it25 : okT it25 = true := by decide +kernel
def it26 : D := .tup [.lst [.str [107, 105, 110, 100, 32, 107], .str [112, 97, 115, 115], .str [32, 32, 99, 101, 108, 108, 32, 109, 32, 50], .str [32, 32, 101, 110, 100], .str [32, 32, 32, 32, 115, 101, 116, 32, 109, 32, 49]], .non]
theorem ok_it26 : okT it26 = true := by decide +kernel
def it27 : D := .tup [.lst [.str [107, 105, 110, 100, 32, 107], .str [112, 97, 115, 115], .str [32, 32, 99, 101, 108, 108, 32, 109, 32, 51], .str [32, 32, 101, 110, 100], .str [32, 32, 32, 32, 115, 101, 116, 32, 109, 32, 49]], .non]
theorem ok_it27 : okT it27 = true := by decide +kernel
def it28 : D := .tup [.lst [.str [107, 105, 110, 100, 32, 107], .str [112, 97, 115, 115], .str [32, 32, 99, 101, 108, 108, 32, 109, 32, 49], .str [32, 32, 101, 110, 100], .str [32, 32, 32, 32, 115, 101, 116, 32, 109, 32, 49]], .int 3]
theorem ok_it28 : okT it28 = true := by decide +kernel
def it29 : D := .tup [.lst [.str [107, 105, 110, 100, 32, 107], .str [112, 97, 115, 115], .str [32, 32, 99, 101, 108, 108, 32, 109, 32, 52], .str [32, 32, 101, 110, 100], .str [32, 32, 32, 32, 115, 101, 116, 32, 109, 32, 49]], .int 3]
theorem ok_it29 : okT it29 = true := by decide +kernel
def it30 : D := .tup [.lst [.str [107, 105, 110, 100, 32, 107], .str [112, 97, 115, 115], .str [32, 32, 99, 101, 108, 108, 32, 109, 32, 48, 50], .str [32, 32, 101, 110, 100], .str [32, 32, 32, 32, 115, 101, 116, 32, 109, 32, 49]], .int 3]
theorem ok_it30 : okT it30 = true := by decide +kernel
def it31 : D := .tup [.lst [.str [107, 105, 110, 100, 32, 107], .str [112, 97, 115, 115], .str [32, 32, 99, 101, 108, 108, 32, 109, 32, 116, 119, 111], .str [32, 32, 101, 110, 100], .str [32, 32, 32, 32, 115, 101, 116, 32, 109, 32, 49]], .int 3]
theorem ok_it31 : okT it31 = true := by decide +kernel
def it32 : D := .tup [.lst [.str [107, 105, 110, 100, 32, 107], .str [112, 97, 115, 115], .str [32, 32, 99, 101, 108, 108, 32, 109, 32, 51], .str [32, 32, 101, 110, 100], .str [32, 32, 32, 32, 115, 101, 116, 32, 109, 32, 48]], .non]
theorem ok_it32 : okT it32 = true := by decide +kernel
def it33 : D := .tup [.lst [.str [107, 105, 110, 100, 32, 107], .str [112, 97, 115, 115], .str [32, 32, 99, 101, 108, 108, 32, 109, 32, 50], .str [32, 32, 101, 110, 100], .str [32, 32, 32, 32, 105, 102, 32, 109, 32, 61, 32, 48], .str [32, 32, 32, 32, 32, 32, 108, 105, 110, 101, 32, 97, 32, 120]], .non]
theorem ok_it33 : okT it33 = true := by decide +kernel
def it34 : D := .tup [.lst [.str [107, 105, 110, 100, 32, 107], .str [112, 97, 115, 115], .str [32, 32, 99, 101, 108, 108, 32, 109, 32, 50], .str [32, 32, 101, 110, 100], .str [32, 32, 32, 32, 105, 102, 32, 109, 32, 61, 32, 49], .str [32, 32, 32, 32, 32, 32, 108, 105, 110, 101, 32, 97, 32, 120]], .non]
theorem ok_it34 : okT it34 = true := by decide +kernel
def it35 : D := .tup [.lst [.str [107, 105, 110, 100, 32, 107], .str [112, 97, 115, 115], .str [32, 32, 99, 101, 108, 108, 32, 109, 32, 51], .str [32, 32, 101, 110, 100], .str [32, 32, 32, 32, 115, 101, 116, 32, 109, 32, 50]], .non]
theorem ok_it35 : okT it35 = true := by decide +kernel
def it36 : D := .tup [.lst [.str [107, 105, 110, 100, 32, 107], .str [112, 97, 115, 115], .str [32, 32, 99, 101, 108, 108, 32, 109, 32, 50], .str [32, 32, 101, 110, 100], .str [32, 32, 32, 32, 105, 102, 32, 109, 32, 61, 32, 50], .str [32, 32, 32, 32, 32, 32, 108, 105, 110, 101, 32, 97, 32, 120]], .int 5]
theorem ok_it36 : okT it36 = true := by decide +kernel
def it37 : D := .tup [.lst [.str [107, 105, 110, 100, 32, 107], .str [112, 97, 115, 115], .str [32, 32, 99, 101, 108, 108, 32, 109, 32, 51], .str [32, 32, 101, 110, 100], .str [32, 32, 32, 32, 115, 101, 116, 32, 109, 32, 51]], .int 5]
theorem ok_it37 : okT it37 = true := by decide +kernel
def it38 : D := .tup [.lst [.str [107, 105, 110, 100, 32, 107], .str [112, 97, 115, 115], .str [32, 32, 99, 101, 108, 108, 32, 109, 32, 50], .str [32, 32, 101, 110, 100], .str [32, 32, 32, 32, 105, 102, 32, 109, 32, 61, 32, 51], .str [32, 32, 32, 32, 32, 32, 108, 105, 110, 101, 32, 97, 32, 120]], .int 5]
theorem ok_it38 : okT it38 = true := by decide +kernel
def it39 : D := .tup [.lst [.str [107, 105, 110, 100, 32, 107], .str [112, 97, 115, 115], .str [32, 32, 99, 101, 108, 108, 32, 109, 32, 51], .str [32, 32, 101, 110, 100], .str [32, 32, 32, 32, 115, 101, 116, 32, 109, 32, 45, 49]], .int 5]
theorem ok_it39 : okT it39 = true := by decide +kernel
def it40 : D := .tup [.lst [.str [107, 105, 110, 100, 32, 107], .str [112, 97, 115, 115], .str [32, 32, 99, 101, 108, 108, 32, 109, 32, 50], .str [32, 32, 101, 110, 100], .str [32, 32, 32, 32, 105, 102, 32, 109, 32, 61, 32, 45, 49], .str [32, 32, 32, 32, 32, 32, 108, 105, 110, 101, 32, 97, 32, 120]], .int 5]
theorem ok_it40 : okT it40 = true := by decide +kernel
def it41 : D := .tup [.lst [.str [107, 105, 110, 100, 32, 107], .str [112, 97, 115, 115], .str [32, 32, 99, 101, 108, 108, 32, 109, 32, 51], .str [32, 32, 101, 110, 100], .str [32, 32, 32, 32, 115, 101, 116, 32, 109, 32, 48, 49]], .int 5]
theorem ok_it41 : okT it41 = true := by decide +kernel
def it42 : D := .tup [.lst [.str [107, 105, 110, 100, 32, 107], .str [112, 97, 115, 115], .str [32, 32, 99, 101, 108, 108, 32, 109, 32, 50], .str [32, 32, 101, 110, 100], .str [32, 32, 32, 32, 105, 102, 32, 109, 32, 61, 32, 48, 49], .str [32, 32, 32, 32, 32, 32, 108, 105, 110, 101, 32, 97, 32, 120]], .int 5]
theorem ok_it42 : okT it42 = true := by decide +kernel
def it43 : D := .tup [.lst [.str [107, 105, 110, 100, 32, 108, 105, 110, 101], .str [32, 32, 102, 105, 101, 108, 100, 32, 102], .str [32, 32, 102, 105, 101, 108, 100, 32, 103], .str [112, 97, 115, 115], .str [32, 32, 98, 101, 103, 105, 110], .str [32, 32, 32, 32, 108, 105, 110, 101, 32, 113, 32, 120]], .non]
theorem ok_it43 : okT it43 = true := by decide +kernel
def it44 : D := .tup [.lst [.str [107, 105, 110, 100, 32, 108, 105, 110, 101], .str [112, 97, 115, 115], .str [112, 97, 115, 115]], .non]
theorem ok_it44 : okT it44 = true := by decide +kernel
def it45 : D := .tup [.lst [.str [107, 105, 110, 100, 32, 108, 105, 110, 101], .str [112, 97, 115, 115], .str [32, 32, 99, 101, 108, 108, 32, 109, 32, 50], .str [32, 32, 99, 101, 108, 108, 32, 110, 32, 50]], .non]
theorem ok_it45 : okT it45 = true := by decide +kernel
def it46 : D := .tup [.lst [.str [107, 105, 110, 100, 32, 108, 105, 110, 101], .str [32, 32, 102, 105, 101, 108, 100, 32, 102], .str [32, 32, 102, 105, 101, 108, 100, 32, 103], .str [32, 32, 102, 105, 101, 108, 100, 32, 104], .str [112, 97, 115, 115], .str [32, 32, 98, 101, 103, 105, 110], .str [32, 32, 32, 32, 108, 105, 110, 101, 32, 113, 32, 120]], .int 4]
theorem ok_it46 : okT it46 = true := by decide +kernel
def it47 : D := .tup [.lst [.str [107, 105, 110, 100, 32, 108, 105, 110, 101], .str [112, 97, 115, 115], .str [112, 97, 115, 115], .str [112, 97, 115, 115]], .int 4]
theorem ok_it47 : okT it47 = true := by decide +kernel
def it48 : D := .tup [.lst [.str [107, 105, 110, 100, 32, 108, 105, 110, 101], .str [112, 97, 115, 115], .str [32, 32, 99, 101, 108, 108, 32, 109, 32, 50], .str [32, 32, 99, 101, 108, 108, 32, 110, 32, 50], .str [32, 32, 99, 101, 108, 108, 32, 111, 32, 50]], .int 5]
theorem ok_it48 : okT it48 = true := by decide +kernel
def it49 : D := .tup [.lst [.str [107, 105, 110, 100, 32, 108, 105, 110, 101, 108, 105, 110, 101], .str [112, 97, 115, 115]], .non]
theorem ok_it49 : okT it49 = true := by decide +kernel
def it50 : D := .tup [.lst [.str [107, 105, 110, 100, 32, 107], .str [32, 32, 102, 105, 101, 108, 100, 32, 108, 105, 110, 101, 108, 105, 110, 101], .str [112, 97, 115, 115]], .non]
theorem ok_it50 : okT it50 = true := by decide +kernel
def it51 : D := .tup [.lst [.str [107, 105, 110, 100, 32, 107], .str [112, 97, 115, 115], .str [32, 32, 98, 101, 103, 105, 110], .str [32, 32, 32, 32, 108, 105, 110, 101, 32, 108, 105, 110, 101, 108, 105, 110, 101, 32, 120]], .non]
theorem ok_it51 : okT it51 = true := by decide +kernel
def it52 : D := .tup [.lst [.str [107, 105, 110, 100, 32, 107], .str [112, 97, 115, 115], .str [32, 32, 98, 101, 103, 105, 110], .str [32, 32, 32, 32, 108, 105, 110, 101, 32, 97, 32, 108, 105, 110, 101, 108, 105, 110, 101]], .non]
theorem ok_it52 : okT it52 = true := by decide +kernel
def it53 : D := .tup [.lst [.str [107, 105, 110, 100, 32, 108, 105, 110, 101, 108, 105, 110, 101, 108], .str [112, 97, 115, 115]], .int 1]
theorem ok_it53 : okT it53 = true := by decide +kernel
def it54 : D := .tup [.lst [.str [107, 105, 110, 100, 32, 107], .str [32, 32, 102, 105, 101, 108, 100, 32, 108, 105, 110, 101, 108, 105, 110, 101, 108], .str [112, 97, 115, 115]], .int 2]
theorem ok_it54 : okT it54 = true := by decide +kernel
def it55 : D := .tup [.lst [.str [107, 105, 110, 100, 32, 107], .str [112, 97, 115, 115], .str [32, 32, 98, 101, 103, 105, 110], .str [32, 32, 32, 32, 108, 105, 110, 101, 32, 108, 105, 110, 101, 108, 105, 110, 101, 108, 32, 120]], .int 4]
theorem ok_it55 : okT it55 = true := by decide +kernel
def it56 : D := .tup [.lst [.str [107, 105, 110, 100, 32, 107], .str [112, 97, 115, 115], .str [32, 32, 98, 101, 103, 105, 110], .str [32, 32, 32, 32, 108, 105, 110, 101, 32, 97, 32, 108, 105, 110, 101, 108, 105, 110, 101, 108]], .int 4]
theorem ok_it56 : okT it56 = true := by decide +kernel
def it57 : D := .tup [.lst [.str [107, 105, 110, 100, 32, 120], .str [32, 32, 102, 105, 101, 108, 100, 32, 102], .str [32, 32, 102, 105, 101, 108, 100, 32, 103], .str [112, 97, 115, 115], .str [32, 32, 98, 101, 103, 105, 110], .str [32, 32, 32, 32, 108, 105, 110, 101, 32, 113, 32, 120]], .non]
theorem ok_it57 : okT it57 = true := by decide +kernel
def it58 : D := .tup [.lst [.str [107, 105, 110, 100, 32, 120], .str [112, 97, 115, 115], .str [112, 97, 115, 115]], .non]
theorem ok_it58 : okT it58 = true := by decide +kernel
def it59 : D := .tup [.lst [.str [107, 105, 110, 100, 32, 120], .str [112, 97, 115, 115], .str [32, 32, 99, 101, 108, 108, 32, 109, 32, 50], .str [32, 32, 99, 101, 108, 108, 32, 110, 32, 50]], .non]
theorem ok_it59 : okT it59 = true := by decide +kernel
def it60 : D := .tup [.lst [.str [107, 105, 110, 100, 32, 120], .str [32, 32, 102, 105, 101, 108, 100, 32, 102], .str [32, 32, 102, 105, 101, 108, 100, 32, 103], .str [32, 32, 102, 105, 101, 108, 100, 32, 104], .str [112, 97, 115, 115], .str [32, 32, 98, 101, 103, 105, 110], .str [32, 32, 32, 32, 108, 105, 110, 101, 32, 113, 32, 120]], .int 4]
theorem ok_it60 : okT it60 = true := by decide +kernel
def it61 : D := .tup [.lst [.str [107, 105, 110, 100, 32, 120], .str [112, 97, 115, 115], .str [112, 97, 115, 115], .str [112, 97, 115, 115]], .int 4]
theorem ok_it61 : okT it61 = true := by decide +kernel
def it62 : D := .tup [.lst [.str [107, 105, 110, 100, 32, 120], .str [112, 97, 115, 115], .str [32, 32, 99, 101, 108, 108, 32, 109, 32, 50], .str [32, 32, 99, 101, 108, 108, 32, 110, 32, 50], .str [32, 32, 99, 101, 108, 108, 32, 111, 32, 50]], .int 5]
theorem ok_it62 : okT it62 = true := by decide +kernel
def it63 : D := .tup [.lst [.str [107, 105, 110, 100, 32, 120, 120, 120, 120, 120, 120, 120, 120], .str [112, 97, 115, 115]], .non]
theorem ok_it63 : okT it63 = true := by decide +kernel
def it64 : D := .tup [.lst [.str [107, 105, 110, 100, 32, 107], .str [32, 32, 102, 105, 101, 108, 100, 32, 120, 120, 120, 120, 120, 120, 120, 120], .str [112, 97, 115, 115]], .non]
theorem ok_it64 : okT it64 = true := by decide +kernel
def it65 : D := .tup [.lst [.str [107, 105, 110, 100, 32, 107], .str [112, 97, 115, 115], .str [32, 32, 98, 101, 103, 105, 110], .str [32, 32, 32, 32, 108, 105, 110, 101, 32, 120, 120, 120, 120, 120, 120, 120, 120, 32, 120]], .non]
theorem ok_it65 : okT it65 = true := by decide +kernel
def it66 : D := .tup [.lst [.str [107, 105, 110, 100, 32, 107], .str [112, 97, 115, 115], .str [32, 32, 98, 101, 103, 105, 110], .str [32, 32, 32, 32, 108, 105, 110, 101, 32, 97, 32, 120, 120, 120, 120, 120, 120, 120, 120]], .non]
theorem ok_it66 : okT it66 = true := by decide +kernel
def it67 : D := .tup [.lst [.str [107, 105, 110, 100, 32, 120, 120, 120, 120, 120, 120, 120, 120, 120], .str [112, 97, 115, 115]], .int 1]
theorem ok_it67 : okT it67 = true := by decide +kernel
def it68 : D := .tup [.lst [.str [107, 105, 110, 100, 32, 107], .str [32, 32, 102, 105, 101, 108, 100, 32, 120, 120, 120, 120, 120, 120, 120, 120, 120], .str [112, 97, 115, 115]], .int 2]
theorem ok_it68 : okT it68 = true := by decide +kernel
def it69 : D := .tup [.lst [.str [107, 105, 110, 100, 32, 107], .str [112, 97, 115, 115], .str [32, 32, 98, 101, 103, 105, 110], .str [32, 32, 32, 32, 108, 105, 110, 101, 32, 120, 120, 120, 120, 120, 120, 120, 120, 120, 32, 120]], .int 4]
theorem ok_it69 : okT it69 = true := by decide +kernel
def it70 : D := .tup [.lst [.str [107, 105, 110, 100, 32, 107], .str [112, 97, 115, 115], .str [32, 32, 98, 101, 103, 105, 110], .str [32, 32, 32, 32, 108, 105, 110, 101, 32, 97, 32, 120, 120, 120, 120, 120, 120, 120, 120, 120]], .int 4]
theorem ok_it70 : okT it70 = true := by decide +kernel
def items_a : List D := [it0, it1, it2, it3, it4, it5, it6, it7, it8, it9, it10, it11, it12, it13, it14, it15, it16, it17, it18, it19, it20, it21, it22, it23, it24, it25, it26, it27, it28, it29, it30, it31, it32, it33, it27, it34, it35, it36, it37, it38, it39, it40, it41, it42]
theorem all_a : items_a.all okT = true := by
  simp only [items_a, List.all_cons, List.all_nil, Bool.and_self, ok_it0, ok_it1, ok_it2, ok_it3, ok_it4, ok_it5, ok_it6, ok_it7, ok_it8, ok_it9, ok_it10, ok_it11, ok_it12, ok_it13, ok_it14, ok_it15, ok_it16, ok_it17, ok_it18, ok_it19, ok_it20, ok_it21, ok_it22, ok_it23, ok_it24, ok_it25, ok_it26, ok_it27, ok_it28, ok_it29, ok_it30, ok_it31, ok_it32, ok_it33, ok_it34, ok_it35, ok_it36, ok_it37, ok_it38, ok_it39, ok_it40, ok_it41, ok_it42]
def items_line : List D := [it0, it1, it2, it3, it43, it44, it45, it46, it47, it48, it10, it11, it12, it13, it14, it15, it16, it17, it49, it50, it51, it52, it53, it54, it55, it56, it26, it27, it28, it29, it30, it31, it32, it33, it27, it34, it35, it36, it37, it38, it39, it40, it41, it42]
theorem all_line : items_line.all okT = true := by
  simp only [items_line, List.all_cons, List.all_nil, Bool.and_self, ok_it0, ok_it1, ok_it2, ok_it3, ok_it10, ok_it11, ok_it12, ok_it13, ok_it14, ok_it15, ok_it16, ok_it17, ok_it26, ok_it27, ok_it28, ok_it29, ok_it30, ok_it31, ok_it32, ok_it33, ok_it34, ok_it35, ok_it36, ok_it37, ok_it38, ok_it39, ok_it40, ok_it41, ok_it42, ok_it43, ok_it44, ok_it45, ok_it46, ok_it47, ok_it48, ok_it49, ok_it50, ok_it51, ok_it52, ok_it53, ok_it54, ok_it55, ok_it56]
def items_x : List D := [it0, it1, it2, it3, it57, it58, it59, it60, it61, it62, it10, it11, it12, it13, it14, it15, it16, it17, it63, it64, it65, it66, it67, it68, it69, it70, it26, it27, it28, it29, it30, it31, it32, it33, it27, it34, it35, it36, it37, it38, it39, it40, it41, it42]
theorem all_x : items_x.all okT = true := by
  simp only [items_x, List.all_cons, List.all_nil, Bool.and_self, ok_it0, ok_it1, ok_it2, ok_it3, ok_it10, ok_it11, ok_it12, ok_it13, ok_it14, ok_it15, ok_it16, ok_it17, ok_it26, ok_it27, ok_it28, ok_it29, ok_it30, ok_it31, ok_it32, ok_it33, ok_it34, ok_it35, ok_it36, ok_it37, ok_it38, ok_it39, ok_it40, ok_it41, ok_it42, ok_it57, ok_it58, ok_it59, ok_it60, ok_it61, ok_it62, ok_it63, ok_it64, ok_it65, ok_it66, ok_it67, ok_it68, ok_it69, ok_it70]
theorem cases_a : okK [97] items_a = true := by decide +kernel
theorem ok_a : okL [97] = true := okL_by cases_a (by
  unfold okI
  rw [all_a]
  decide +kernel)
theorem cases_line : okK [108, 105, 110, 101] items_line = true := by decide +kernel
theorem ok_line : okL [108, 105, 110, 101] = true := okL_by cases_line (by
  unfold okI
  rw [all_line]
  decide +kernel)
theorem cases_x : okK [120] items_x = true := by decide +kernel
theorem ok_x : okL [120] = true := okL_by cases_x (by
  unfold okI
  rw [all_x]
  decide +kernel)
end K06

set_option maxRecDepth 100000
set_option maxHeartbeats 4000000
namespace K06
open PySem PySem.Spec L2 Mi
local macro_rules | `(tactic| fail "mi e") => `(tactic| with_reducible first
  | (apply wp_var; next => with_unfolding_all rfl) | refine wp_int ?_ | refine wp_str ?_ | refine wp_bool ?_ | refine wp_non ?_ | refine wp_ty ?_
  | refine wp_nilL ?_ | refine wp_consL ?_ | refine wp_cmp ?_ | refine wp_bcall ?_ | refine wp_idx ?_ | refine wp_bin ?_ | refine wp_call ?_
  | refine wp_and ?_ | refine wp_or ?_ | refine wp_not ?_ | refine wp_chain ?_ | refine wp_ite ?_ | refine wp_tup ?_ | refine wp_lst ?_ | refine wp_lstM ?_
  | refine wp_edct ?_ | refine wp_sl ?_ | refine wp_partN ?_ | refine wp_partS ?_ | refine wp_callk ?_ | refine wp_lc ?_ | refine wp_condN ?_ | refine wp_condS ?_
  | refine wp_neg ?_ | refine wp_rev ?_ | refine wp_sset ?_ | refine wp_upper ?_ | refine wp_isn ?_ | refine wp_notn ?_)
local macro_rules | `(tactic| fail "mi s") => `(tactic| with_reducible first
  | refine ws_seq ?_ | refine ws_nil ?_ | refine ws_ite ?_ | refine ws_set ?_ | refine ws_ret ?_ | refine ws_expr ?_ | refine ws_asg ?_ | refine ws_par ?_ | refine ws_setItem ?_
  | refine ws_pass ?_ | refine ws_retN ?_ | refine ws_brk ?_ | refine ws_cont ?_ | refine ws_loop ?_ | (apply ws_aug; next => with_unfolding_all rfl))
local macro_rules | `(tactic| fail "mi b1") => `(tactic| with_reducible first
  | refine tq_bl ?_ | refine tq_int ?_ | refine tq_tup ?_ | refine tq_lst ?_ | refine tq_non ?_ | refine cq_bl ?_ | refine iq_int ?_ | refine if_t ?_ | refine if_f ?_ | refine if_n ?_ | refine so_some ?_
  | (apply if_dt; next => assumption) | (apply if_df; next => assumption) | (refine if_d ?_ ?_ <;> intro hb) | (apply if_et; next => assumption) | (apply if_en; next => assumption) | (apply if_nt; next => assumption) | (apply if_nn; next => assumption) | (refine if_eq ?_ ?_ <;> intro hb) | (refine if_ne ?_ ?_ <;> intro hb) | (apply if_bt; next => assumption) | (apply if_bf; next => assumption) | (refine if_b ?_ ?_ <;> intro hb) | (apply tq_of; next => assumption) | (apply so_of; next => assumption))
local macro_rules | `(tactic| fail "mi b") => `(tactic| first
  | fail "mi b1" | (with_reducible apply so_of; next => with_unfolding_all rfl) | (with_reducible refine And.intro ?_ ?_; next => (simp only [List.length_cons, List.length_nil]; decide)))
local macro_rules | `(tactic| fail "mi n") => `(tactic| first | decide | assumption | omega | apply_assumption)
local macro_rules | `(tactic| fail "mi r") => `(tactic| ((try dsimp only [b2, c2, bf]); with_unfolding_all first | with_reducible assumption | rfl | assumption | exact modD_ok _ (by fail "mi n") | exact divD_ok _ (by fail "mi n") (by fail "mi n") | exact mulD_l _ (by fail "mi n") | exact mulD_r _ (by fail "mi n") | exact powD_ok _ (by fail "mi n") (by fail "mi n")))
local macro_rules | `(tactic| fail "mi") => `(tactic| first
  | fail "mi s" | fail "mi e" | (with_reducible apply wp_glo; next => with_unfolding_all rfl) | (with_reducible refine sqq_nx ?_) | (with_reducible refine sqq_rt ?_) | (with_reducible refine sqq_ct ?_) | (with_reducible refine sqq_bk ?_) | (with_reducible refine tnq_nx ?_) | (with_reducible refine tnq_rt ?_) | (with_reducible refine tnq_ct ?_) | (with_reducible refine tnq_bk ?_)
  | (with_reducible refine rtq_rt ?_) | (with_reducible refine rtq_nx ?_)
  | fail "mi b"
  | (with_reducible apply Wp.ok; next => with_reducible assumption)
  | (with_reducible first | (apply ok_b2; next => fail "mi r") | (apply ok_c2; next => fail "mi r") | (apply ok_bf; next => fail "mi r") | (apply ok_idx; next => fail "mi r") | (apply ok_neg; next => fail "mi r") | (apply ok_sl; next => fail "mi r") | (apply ok_rev; next => fail "mi r") | (apply ok_sset; next => fail "mi r") | (apply ok_upper; next => fail "mi r") | (apply ok_aug; next => fail "mi r")))
theorem len_fro (ds : List D) (st : Sto) : lenD [.fro ds] st = .ok (.int ds.length) st := rfl
theorem emod_lt (x : Int) {m : Int} (h : 0 < m) : 0 ≤ x % m ∧ x % m < m := ⟨Int.emod_nonneg _ (by omega), Int.emod_lt_of_pos _ h⟩
theorem pot_rest (n : Nat) (a : D) (k z : Int) (hk : 0 ≤ k) (hk2 : k ≤ 1000) (st : Sto) :
    Ws (ex gM (Cn n) (.seq (.set 3 (.bin .mul (.bin .mod (.bcall .int (.cons (.bcall .abs (.cons (.var 2) .nil)) .nil)) (.bin .pow (.bin .pow (.int 10) (.int 60)) (.int 5))) (.bcall .int (.cons (.cmp .ge (.bcall .abs (.cons (.var 2) .nil)) (.bin .pow (.int 10) (.int 18))) .nil)))) (.seq (.set 4 (.bin .add (.bin .add (.bin .mul (.bin .mod (.bcall .int (.cons (.var 2) .nil)) (.int 2305843009213693951)) (.int 70061)) (.bin .mul (.bin .mul (.int 7793) (.var 1)) (.var 1))) (.int 59))) (.seq (.ret (.lst true (.cons (.var 3) (.cons (.bin .mod (.bcall .int (.cons (.var 4) .nil)) (.int 2305843009213693921)) (.cons (.int 0) .nil))))) .nil))) [some a, some (.int k), some (.int z), none, none] st)
      (RtQ fun a st' => ∃ pn, a = .loc pn ∧ Pot pn 0 st') (fun x _ st => noX x st) := by
  have p1 : powD (.int 10) (.int 60) st = .ok (.int (10 ^ 60)) st := powD_ok st (by decide) (by decide)
  have p2 : powD (.int (10 ^ 60)) (.int 5) st = .ok (.int ((10 ^ 60) ^ 5)) st := powD_ok st (by decide) (by decide +kernel)
  have p3 : powD (.int 10) (.int 18) st = .ok (.int (10 ^ 18)) st := powD_ok st (by decide) (by decide)
  have big : (0 : Int) < (10 ^ 60) ^ 5 := by decide +kernel
  generalize hA : ((10 : Int) ^ 60) = A at p1 p2 big
  generalize hB : A ^ 5 = B at p2 big
  generalize hC : ((10 : Int) ^ 18) = C at p3
  have m1 := fun i => modD_ok (i := i) st big
  generalize hz : (if z < 0 then -z else z) = y
  have hy : 0 ≤ y := by rw [← hz]; split <;> omega
  have a1 : absD [.int z] st = .ok (.int y) st := by rw [← hz]; rfl
  have b1 : ∀ b : Bool, intD [.bl b] st = .ok (.int (if b = true then 1 else 0)) st := fun b => rfl
  have l6 : (7793 : Int).natAbs < 2 ^ 64 := by decide
  have l7 : (70061 : Int).natAbs < 2 ^ 64 := by decide
  have lk : k.natAbs < 2 ^ 64 := by omega
  have c1 := fun i => modD_ok (i := i) st (show (0 : Int) < 2305843009213693951 by decide)
  have c2 := fun i => modD_ok (i := i) st (show (0 : Int) < 2305843009213693921 by decide)
  repeat' fail "mi"
  have e1 := emod_lt y big
  have e2 := emod_lt (z % 2305843009213693951 * 70061 + 7793 * k * k + 59) (show (0 : Int) < 2305843009213693921 by decide)
  refine ⟨_, rfl, _, _, 0, List.getElem?_concat_length, ?_, e2.1, by omega, by decide, by decide⟩
  split <;> omega
theorem pot_ok (n : Nat) (ns : List Int) (k : Int) (hk : 0 ≤ k) (hk2 : k ≤ 1000) (st : Sto) :
    Wp (Cn (n + 1) 514 [.fro (ns.map D.int), .int k] st) (fun a st' => ∃ pn, a = .loc pn ∧ Pot pn 0 st') noX := by
  rw [c_pot]
  refine wp_run (en := [some (.fro (ns.map D.int)), some (.int k), none, none, none]) rfl rfl ?_
  unfold dlawpot
  have e1 := len_fro (ns.map D.int) st
  have l4 : (57 : Int).natAbs < 2 ^ 64 := by decide
  refine ws_seq (Ws.mono (Q' := fun fl st' => ∃ z, fl = .nx [some (.fro (ns.map D.int)), some (.int k), some (.int z), none, none] ∧ st' = st) (X' := fun _ _ _ => False) ?_ (fun fl st' h => ?_) fun _ _ _ h => h.elim)
  · repeat' fail "mi"
    · rename_i h1
      obtain ⟨d, hd, ed⟩ := atI_mem hk h1
      obtain ⟨z, _, rfl⟩ := List.mem_map.mp hd
      have e2 := idx_l (show itemsOf (.fro (ns.map D.int)) st = some (ns.map D.int) from rfl) ed
      refine ok_idx e2 ?_
      exact ⟨_, rfl, rfl⟩
    · exact ⟨_, rfl, rfl⟩
  · obtain ⟨z, rfl, rfl⟩ := h
    refine sqq_nx ?_
    exact pot_rest n _ k z hk hk2 st'
/-! ### blocks run by themselves -/
theorem iso0 {C : Call} {b : S} {vs : List Nat} {en0 en : En} {st st1 : Sto} {v : D} (h1 : keepE st.length vs en = some en0) (h : ex gM C b en0 [] = .ok (.rt v) st1) (hl : lf v = true) : ex gM C (.iso 0 vs b) en st = .ok (.rt v) st := by
  have h2 : keepS st.length st = some [] := by
    unfold keepS
    rw [List.drop_length]
    rfl
  show (match keepE (st.length - 0) vs en, keepS (st.length - 0) st with
    | some en0, some st0 => isoEnd 0 (st.length - 0) st (ex gM C b en0 st0)
    | _, _ => .bad) = _
  rw [Nat.sub_zero, h1, h2]
  show isoEnd 0 st.length st (ex gM C b en0 []) = _
  rw [h]
  show (if (lf v && Nat.beq 0 0) = true then _ else _) = _
  rw [hl]
  rfl
theorem iso1 {C : Call} {b : S} {vs : List Nat} {en0 en : En} {st st1 : Sto} {r : Nat} (h1 : keepE st.length vs en = some en0) (h : ex gM C b en0 [Ob.lst []] = .ok (.rt (.loc r)) st1) : ex gM C (.iso 1 vs b) en (st ++ [Ob.lst []]) = .ok (.rt (.loc (st.length + r))) (st ++ st1.map (shO st.length)) := by
  have e : (st ++ [Ob.lst []]).length - 1 = st.length := by simp
  have h2 : keepS st.length (st ++ [Ob.lst []]) = some [Ob.lst []] := by
    unfold keepS
    rw [List.drop_left]
    rfl
  show (match keepE ((st ++ [Ob.lst []]).length - 1) vs en, keepS ((st ++ [Ob.lst []]).length - 1) (st ++ [Ob.lst []]) with
    | some en0, some st0 => isoEnd 1 ((st ++ [Ob.lst []]).length - 1) (st ++ [Ob.lst []]) (ex gM C b en0 st0)
    | _, _ => .bad) = _
  rw [e, h1, h2]
  show isoEnd 1 st.length (st ++ [Ob.lst []]) (ex gM C b en0 [Ob.lst []]) = _
  rw [h]
  show RS.ok (.rt (.loc (st.length + r))) ((st ++ [Ob.lst []]).take st.length ++ st1.map (shO st.length)) = _
  rw [List.take_left]
end K06

set_option maxRecDepth 100000
set_option maxHeartbeats 4000000
namespace K06
open PySem PySem.Spec L2 Mi
local macro_rules | `(tactic| fail "mi e") => `(tactic| with_reducible first
  | (apply wp_var; next => with_unfolding_all rfl) | refine wp_int ?_ | refine wp_str ?_ | refine wp_bool ?_ | refine wp_non ?_ | refine wp_ty ?_
  | refine wp_nilL ?_ | refine wp_consL ?_ | refine wp_cmp ?_ | refine wp_bcall ?_ | refine wp_idx ?_ | refine wp_bin ?_ | refine wp_call ?_
  | refine wp_and ?_ | refine wp_or ?_ | refine wp_not ?_ | refine wp_chain ?_ | refine wp_ite ?_ | refine wp_tup ?_ | refine wp_lst ?_ | refine wp_lstM ?_
  | refine wp_edct ?_ | refine wp_sl ?_ | refine wp_partN ?_ | refine wp_partS ?_ | refine wp_callk ?_ | refine wp_lc ?_ | refine wp_condN ?_ | refine wp_condS ?_
  | refine wp_neg ?_ | refine wp_rev ?_ | refine wp_sset ?_ | refine wp_upper ?_ | refine wp_isn ?_ | refine wp_notn ?_)
local macro_rules | `(tactic| fail "mi s") => `(tactic| with_reducible first
  | refine ws_seq ?_ | refine ws_nil ?_ | refine ws_ite ?_ | refine ws_set ?_ | refine ws_ret ?_ | refine ws_expr ?_ | refine ws_asg ?_ | refine ws_par ?_ | refine ws_setItem ?_
  | refine ws_pass ?_ | refine ws_retN ?_ | refine ws_brk ?_ | refine ws_cont ?_ | refine ws_loop ?_ | (apply ws_aug; next => with_unfolding_all rfl))
local macro_rules | `(tactic| fail "mi b1") => `(tactic| with_reducible first
  | refine tq_bl ?_ | refine tq_int ?_ | refine tq_tup ?_ | refine tq_lst ?_ | refine tq_non ?_ | refine cq_bl ?_ | refine iq_int ?_ | refine if_t ?_ | refine if_f ?_ | refine if_n ?_ | refine so_some ?_
  | (apply if_dt; next => assumption) | (apply if_df; next => assumption) | (refine if_d ?_ ?_ <;> intro hb) | (apply if_et; next => assumption) | (apply if_en; next => assumption) | (apply if_nt; next => assumption) | (apply if_nn; next => assumption) | (refine if_eq ?_ ?_ <;> intro hb) | (refine if_ne ?_ ?_ <;> intro hb) | (apply if_bt; next => assumption) | (apply if_bf; next => assumption) | (refine if_b ?_ ?_ <;> intro hb) | (apply tq_of; next => assumption) | (apply so_of; next => assumption))
local macro_rules | `(tactic| fail "mi b") => `(tactic| first
  | fail "mi b1" | (with_reducible apply so_of; next => with_unfolding_all rfl) | (with_reducible refine And.intro ?_ ?_; next => (simp only [List.length_cons, List.length_nil]; decide)))
local macro_rules | `(tactic| fail "mi n") => `(tactic| first | decide | assumption | omega | apply_assumption)
local macro_rules | `(tactic| fail "mi r") => `(tactic| ((try dsimp only [b2, c2, bf]); with_unfolding_all first | with_reducible assumption | rfl | assumption | exact modD_ok _ (by fail "mi n") | exact divD_ok _ (by fail "mi n") (by fail "mi n") | exact mulD_l _ (by fail "mi n") | exact mulD_r _ (by fail "mi n") | exact powD_ok _ (by fail "mi n") (by fail "mi n")))
local macro_rules | `(tactic| fail "mi") => `(tactic| first
  | fail "mi s" | fail "mi e" | (with_reducible apply wp_glo; next => with_unfolding_all rfl) | (with_reducible refine sqq_nx ?_) | (with_reducible refine sqq_rt ?_) | (with_reducible refine sqq_ct ?_) | (with_reducible refine sqq_bk ?_) | (with_reducible refine tnq_nx ?_) | (with_reducible refine tnq_rt ?_) | (with_reducible refine tnq_ct ?_) | (with_reducible refine tnq_bk ?_)
  | (with_reducible refine rtq_rt ?_) | (with_reducible refine rtq_nx ?_)
  | fail "mi b"
  | (with_reducible apply Wp.ok; next => with_reducible assumption)
  | (with_reducible first | (apply ok_b2; next => fail "mi r") | (apply ok_c2; next => fail "mi r") | (apply ok_bf; next => fail "mi r") | (apply ok_idx; next => fail "mi r") | (apply ok_neg; next => fail "mi r") | (apply ok_sl; next => fail "mi r") | (apply ok_rev; next => fail "mi r") | (apply ok_sset; next => fail "mi r") | (apply ok_upper; next => fail "mi r") | (apply ok_aug; next => fail "mi r")))
theorem caught_ok {tx : List Nat} {v : D} {st1 : Sto} (h : exC tx = .ok (.rt v) st1) (hl : lf v = true) (st : Sto) : Cn 58 309 [.str tx] st = .ok v st := by
  rw [c_caught 57]
  refine Wp_eq (wp_run (en := [some (.str tx), none, none]) rfl rfl ?_)
  have e : ex gM (Cn 57) dlawcaught.b [some (.str tx), none, none] st = .ok (.rt v) st := iso0 (b := caughtB) (en0 := [some (.str tx), none, none]) rfl h hl
  rw [e]
  exact ⟨rfl, rfl⟩
theorem join_ok {page : List D} {tx : List Nat} (h : joinP page = some tx) (st : Sto) : joinD (.str [10]) [.lst page] st = .ok (.str tx) st := by
  unfold joinP at h
  cases e : strsOf page with
  | none => rw [e] at h; cases h
  | some ys =>
    rw [e] at h
    dsimp only at h
    split at h
    · rename_i hz
      cases h
      simp only [joinD, itemsOf, e]
      rw [if_pos hz]
      rfl
    · cases h
theorem wp_bm {G : Gs} {C : Call} {X : Ex → Sto → Prop} {en : En} {st : Sto} {Q : D → Sto → Prop} {m : Bm} {o es : E} (h : Wp (ev G C o en st) (fun x st => bmOk m x st = true ∧ Wp (evs G C es en st) (fun ds st => Wp (bmD m x ds st) Q noX) X) X) : Wp (ev G C (.bm m o es) en st) Q X :=
  Wp.bind (h.mono (fun x st h => by
    rw [if_pos h.1]
    exact Wp.bind (h.2.mono (fun _ _ h => h.shut_) fun _ _ h => h)) fun _ _ h => h)
/-- the letters -/
def ltrs : List D := [.str [97], .str [108, 105, 110, 101], .str [120]]
theorem ltr_ok {d : D} (h : d ∈ ltrs) : ∃ l, d = .str l ∧ okL l = true := by
  simp only [ltrs, List.mem_cons, List.not_mem_nil, or_false] at h
  rcases h with rfl | rfl | rfl
  · exact ⟨_, rfl, ok_a⟩
  · exact ⟨_, rfl, ok_line⟩
  · exact ⟨_, rfl, ok_x⟩
theorem okL_of {l : List Nat} (h : okL l = true) : ∃ r st1 items, exK l = .ok (.rt (.loc r)) st1 ∧ st1[r]? = some (.lst items) ∧ okI items = true := by
  unfold okL at h
  split at h
  · rename_i r st1 e
    split at h
    · rename_i items e2
      exact ⟨r, st1, items, e, e2, h⟩
    · cases h
  · cases h
theorem keep34 (k : Nat) (l : List Nat) (a : D) : keepE k [3, 4] [some a, none, none, some (.str l), some (.loc k), none, none, none, none, none, none, none, none] = some [none, none, none, some (.str l), some (.loc 0), none, none, none, none, none, none, none, none] := by
  have h : Nat.ble k k = true := by simp
  unfold keepE
  simp [List.mapIdx, List.mapIdx.go, lfk, un, mvD, h]
theorem cases_ok {pn c : Nat} {st : Sto} (P : Pot pn c st) (hc : c < 90000) :
    Wp (Cn 58 308 [.loc pn] st) (fun a st' => ∃ sn items, a = .loc sn ∧ Sq pn (.loc sn) st' items ∧ okI items = true ∧ Pot pn (c + 1) st') noX := by
  rw [c_cases 57]
  refine wp_run (en := [some (.loc pn), none, none, none, none, none, none, none, none, none, none, none, none]) rfl rfl ?_
  refine ws_seq (ws_par ?_)
  refine wp_consL ?_
  refine wp_call ?_
  repeat' fail "mi e"
  refine ⟨by decide, ?_⟩
  repeat' fail "mi e"
  refine (of_ok 55 ltrs P (.inl rfl) (by omega) (by decide) (by decide)).to fun d st' h => ?_
  obtain ⟨hd, P', F⟩ := h
  obtain ⟨l, rfl, hl⟩ := ltr_ok hd
  obtain ⟨r, st1, items, e1, e2, e3⟩ := okL_of hl
  repeat' fail "mi e"
  refine ⟨by decide, ?_⟩
  repeat' fail "mi e"
  refine so_of (a := [some (.loc pn), none, none, some (.str l), some (.loc st'.length), none, none, none, none, none, none, none, none]) rfl ?_
  refine sqq_nx ?_
  have e := iso1 (C := Cn 57) (b := casesB) (keep34 st'.length l (.loc pn)) e1
  show Ws (ex gM (Cn 57) (.iso 1 [3, 4] casesB) [some (.loc pn), none, none, some (.str l), some (.loc st'.length), none, none, none, none, none, none, none, none] (st' ++ [Ob.lst []])) _ _
  rw [e]
  obtain ⟨own, mixed, cnt, hp, hrest⟩ := P'
  have hlt : pn < st'.length := (List.getElem?_eq_some_iff.mp hp).1
  have hlf : lfs items = true := by
    unfold okI at e3
    rw [Bool.and_eq_true] at e3
    exact e3.1
  refine ⟨st'.length + r, items, rfl, .inr ⟨_, rfl, by omega, ?_⟩, e3, own, mixed, cnt, ?_, hrest⟩
  · rw [List.getElem?_append_right (by omega), Nat.add_sub_cancel_left, List.getElem?_map, e2]
    show some (Ob.lst (mvDs (fun n => st'.length + n) items)) = _
    rw [lfs_mv _ _ hlf]
  · rw [List.getElem?_append_left hlt]; exact hp
theorem ne_i (i : Int) (st : Sto) : neD (.int i) (.int i) st = .ok (.bl false) st := by
  have e : deq 40 (.int i) (.int i) = some true := by simp [deq]
  simp [neD, ofB, e]
theorem okI_of {items : List D} (h : okI items = true) : 0 < items.length ∧ items.length < 1000 ∧ ∀ d ∈ items, okT d = true := by
  unfold okI at h
  simp only [Bool.and_eq_true, decide_eq_true_eq, List.all_eq_true] at h
  exact ⟨h.2.1, h.2.2.1, h.2.2.2⟩
theorem okT_of {d : D} (h : okT d = true) : ∃ page due tx v st1, d = .tup [.lst page, due] ∧ joinP page = some tx ∧ exC tx = .ok (.rt v) st1 ∧ lf v = true ∧ okV v due = true := by
  unfold okT at h
  split at h
  · rename_i page due
    split at h
    · rename_i tx e
      unfold okR at h
      split at h
      · rename_i v st1 e2
        rw [Bool.and_eq_true] at h
        exact ⟨page, due, tx, v, st1, rfl, e, e2, h⟩
      · cases h
    · cases h
  · cases h
theorem okV_of {v due : D} (h : okV v due = true) : (due = .non ∧ v = .str [116, 111, 108, 100]) ∨ ∃ i, due = .int i ∧ v = .int i := by
  unfold okV at h
  split at h
  · rename_i s
    exact .inl ⟨rfl, by rw [of_decide_eq_true h]; rfl⟩
  · rename_i i j
    exact .inr ⟨i, rfl, by rw [of_decide_eq_true h]⟩
  · cases h
theorem right_ok {pn c : Nat} {st : Sto} (P : Pot pn c st) (hc : c < 80000) :
    Wp (Cn 59 529 [.loc pn] st) (fun a st' => a = .bl true) noX := by
  rw [c_right 58]
  refine wp_run (en := [some (.loc pn), none, none, none, none, none]) rfl rfl ?_
  unfold dlawright lplawright1
  refine ws_seq (ws_set (wp_call ?_))
  repeat' fail "mi e"
  refine (cases_ok P (by omega)).to fun a st' h => ?_
  obtain ⟨sn, items, rfl, S, hI, P'⟩ := h
  obtain ⟨h1, h2, h3⟩ := okI_of hI
  refine sqq_nx (ws_seq (ws_loop ?_))
  repeat' fail "mi e"
  refine so_of (a := (List.range 6).map fun i : Nat => D.int (0 + (i : Int))) rfl ?_
  refine for_run (fun xs en st => (∃ x y z w, en = [some (.loc pn), some (.loc sn), x, y, z, w]) ∧ ∃ c', Pot pn c' st ∧ c' + xs.length ≤ c + 7 ∧ Sq pn (.loc sn) st items) (fun x xs en st hI => ?_) (fun en st hI => ?_) _ _ _ ⟨⟨_, _, _, _, rfl⟩, c + 1, P', by simp, S⟩
  · obtain ⟨⟨x', y', z', w', rfl⟩, c', P2, hc', S2⟩ := hI
    simp only [List.length_cons] at hc'
    refine ⟨_, rfl, ?_⟩
    unfold lplawright1b
    refine ws_seq (ws_asg (wp_call ?_))
    repeat' fail "mi e"
    refine (of_ok 56 items P2 S2 (by omega) h1 h2).to fun d st2 h => ?_
    obtain ⟨hd, P3, F⟩ := h
    obtain ⟨page, due, tx, v, st1, rfl, ej, ec, el, ev⟩ := okT_of (h3 d hd)
    refine so_of rfl ?_
    refine sqq_nx (ws_seq (ws_set (wp_call ?_)))
    repeat' fail "mi e"
    refine wp_bm ?_
    repeat' fail "mi e"
    refine ⟨rfl, ?_⟩
    repeat' fail "mi e"
    refine Wp.ok (join_ok ej st2) ?_
    repeat' fail "mi e"
    refine Wp.ok (caught_ok ec el st2) ?_
    have fin : Pot pn (c' + 1) st2 ∧ c' + 1 + xs.length ≤ c + 7 ∧ Sq pn (.loc sn) st2 items := ⟨P3, by omega, S2.fr F⟩
    rcases okV_of ev with ⟨rfl, rfl⟩ | ⟨i, rfl, rfl⟩
    · have n1 : neD (.str [116, 111, 108, 100]) (.str [116, 111, 108, 100]) st2 = .ok (.bl false) st2 := by rfl
      have n2 : isiD [.str [116, 111, 108, 100], .ty 1] st2 = .ok (.bl false) st2 := by rfl
      have m1 : isNon D.non = true := rfl
      repeat' fail "mi"
      exact ⟨⟨_, _, _, _, rfl⟩, _, fin⟩
    · have m1 : isNon (D.int i) = false := rfl
      have n1 := ne_i i st2
      have n2 : isiD [.int i, .ty 1] st2 = .ok (.bl false) st2 := by rfl
      repeat' fail "mi"
      exact ⟨⟨_, _, _, _, rfl⟩, _, fin⟩
  · repeat' fail "mi"
    rfl
theorem law_ok (ns : List Int) (hn : ns.length ≤ 63) : Wp (Cn 60 822 [.fro (ns.map D.int)] []) (fun a _ => a = .bl true) noX := by
  rw [c_law 59]
  refine wp_run (en := [some (.fro (ns.map D.int)), none, none]) rfl rfl ?_
  unfold dlaw lplaw1
  have e1 := len_fro (ns.map D.int) []
  repeat' fail "mi"
  generalize hm : (if (if ((ns.map D.int).length : Int) < 3 then ((ns.map D.int).length : Int) else 3) > 1 then if ((ns.map D.int).length : Int) < 3 then ((ns.map D.int).length : Int) else 3 else 1) = m
  have hm2 : m ≤ 3 := by rw [← hm]; split <;> split <;> omega
  have hm1 : 0 ≤ m := by rw [← hm]; split <;> split <;> omega
  have ew : walkOf gM .range1 [.int m] [] = some ((List.range m.toNat).map fun i : Nat => D.int (0 + (i : Int))) := by
    show (if -(2 ^ 62) ≤ m ∧ m < 2 ^ 62 then some ((List.range m.toNat).map fun i : Nat => D.int (0 + (i : Int))) else none) = _
    exact if_pos (by omega)
  refine so_of ew ?_
  refine for_run (fun xs en st' => (∃ x y, en = [some (.fro (ns.map D.int)), x, y]) ∧ ∀ x ∈ xs, ∃ i : Int, x = .int i ∧ 0 ≤ i ∧ i ≤ 1000) (fun x xs en st' hI => ?_) (fun en st' hI => ?_) _ _ _ ⟨⟨_, _, rfl⟩, fun x hx => ?_⟩
  · obtain ⟨⟨x', y', rfl⟩, ha⟩ := hI
    obtain ⟨i, rfl, hi, hi2⟩ := ha x (by simp)
    refine ⟨_, rfl, ?_⟩
    unfold lplaw1b
    repeat' fail "mi"
    refine (pot_ok 58 ns i hi hi2 st').to fun a s1 h1 => ?_
    obtain ⟨pn, rfl, P⟩ := h1
    repeat' fail "mi"
    refine (right_ok P (by omega)).to fun a s2 h2 => ?_
    subst h2
    repeat' fail "mi"
    exact ⟨⟨_, _, rfl⟩, fun y hy => ha y (List.mem_cons_of_mem _ hy)⟩
  · repeat' fail "mi"
    rfl
  · obtain ⟨i, hi, rfl⟩ := List.mem_map.mp hx
    rw [List.mem_range] at hi
    exact ⟨_, rfl, by omega, by omega⟩
theorem pure_run : ∀ ns : List Int, ns.length ≤ 63 → ∃ st, callN gM (tabD tabT) 60 822 [.fro (ns.map D.int)] [] = .ok (.bl true) st := fun ns hn => by
  obtain ⟨a, st, e, rfl⟩ := (law_ok ns hn).ok_inv
  exact ⟨st, e⟩
end K06

set_option maxRecDepth 100000
set_option maxHeartbeats 0
namespace K06
open PySem PySem.Spec PyProof.Rows L2 Mi
abbrev R : PySem.W.OpenRow := PySem.W.OpenLaw.row PySem.Challenge.rw_handkept_k06_bounds_of_programs
def asl : List Addr := [3, 6, 4, 21, 31, 53, 60, 67, 74, 131, 173, 201, 222, 243, 254, 259, 264, 265, 336, 379, 435, 446, 502, 513, 520, 527, 534, 539, 544, 551, 558, 0, 20, 30, 52, 59, 66, 73, 130, 172, 200, 221, 242, 253, 258, 263, 335, 378, 434, 445, 501, 512, 519, 526, 533, 538, 543, 550, 557, 15, 16, 17, 18, 19, 29, 32, 50, 51, 56, 57, 58, 61, 62, 63, 64, 65, 68, 69, 70, 71, 72, 86, 93, 100, 107, 114, 121, 128, 129, 132, 133, 149, 156, 163, 170, 171, 174, 175, 191, 198, 199, 202, 203, 219, 220, 223, 224, 240, 241, 244, 245, 248, 249, 250, 251, 252, 255, 256, 257, 260, 261, 262, 279, 286, 293, 298, 305, 312, 319, 326, 333, 334, 337, 338, 354, 362, 369, 376, 377, 380, 381, 397, 404, 411, 418, 425, 432, 433, 436, 437, 440, 441, 442, 443, 444, 460, 468, 476, 484, 492, 499, 500, 503, 504, 507, 508, 509, 510, 511, 514, 515, 516, 517, 518, 521, 49, 38, 85, 92, 99, 106, 113, 120, 127, 148, 155, 162, 169, 190, 197, 218, 239, 278, 285, 292, 297, 304, 311, 318, 325, 332, 353, 361, 355, 368, 375, 396, 403, 410, 417, 424, 431, 459, 467, 475, 483, 491, 498, 44, 45, 46, 47, 48, 82, 83, 413, 414, 415, 416, 419, 420, 421, 422, 423, 426, 427, 428, 429, 430, 454, 455, 456, 457, 458, 466, 474, 482, 490, 493, 494]
abbrev hk : PySem.W.Hook := hookM asl (hxOf ld)
def ob (s : PySem.W.SharedT) : AlM := obsM asl (hxOf ld) (HandSHeadRun.getT s)
theorem ob_eq (s : PySem.W.SharedT) : ob s = hk.obs s.abs := obsM_eq (HandSHeadRun.getT_eq s)
abbrev loose : List Str := ("_wall" : Str) :: ("__name__" : Str) :: ("KeptError" : Str) :: ("BadText" : Str) :: ("LETTERS" : Str) :: ("MOST_LETTERS" : Str) :: ("is_word" : Str) :: ("BLANK" : Str) :: ("FEED" : Str) :: ("FIGURES" : Str) :: ("STEP" : Str) :: ("words_in" : Str) :: ("figure_in" : Str) :: ("Lines" : Str) :: ("LINE" : Str) :: ("HEAD" : Str) :: ("SET" : Str) :: ("IF" : Str) :: ("WORD" : Str) :: ("REF" : Str) :: ("CELL" : Str) :: ("KEY" : Str) :: ("BEGIN" : Str) :: ("OPEN" : Str) :: ("CLOSE" : Str) :: ("END" : Str) :: ("Statement" : Str) :: ("Block" : Str) :: ("Pass" : Str) :: ("Plan" : Str) :: ("all_statements" : Str) :: ("handlers_of" : Str) :: ("words_told" : Str) :: ("KIND" : Str) :: ("IN" : Str) :: ("FIELD" : Str) :: ("PASS" : Str) :: ("ELSE" : Str) :: ("EQUAL" : Str) :: ("IS" : Str) :: ("DOT" : Str) :: ("NOTHING" : Str) :: ("MOST_KINDS" : Str) :: ("MOST_DEPTH" : Str) :: ("MOST_FIELDS" : Str) :: ("MOST_PASSES" : Str) :: ("MOST_CELLS" : Str) :: ("MOST_STATEMENTS" : Str) :: ("MOST_NESTED" : Str) :: ("MOST_TOKENS" : Str) :: ("MANY_WORTHS" : Str) :: ("TOP" : Str) :: ("BELOW" : Str) :: ("WITHIN" : Str) :: ("Scope" : Str) :: ("BlockReader" : Str) :: ("PlanReader" : Str) :: ("read_plan" : Str) :: ("Program" : Str) :: ("_law_pot" : Str) :: ("_law_take" : Str) :: ("_law_of" : Str) :: ("_law_caught" : Str) :: ("_law_cases" : Str) :: ("_law_more_cases" : Str) :: ("_law_right" : Str) :: []
/-- one row's answer, apart -/
def setFT (w : World) (b : Bool) : World := ⟨w.draws, { w.params with followText := fun r => if r = "special-get-raises" then b else w.params.followText r }⟩
theorem setFT_eq (w : World) : setFT w (w.params.followText "special-get-raises") = w := by
  obtain ⟨d, p⟩ := w
  have e : (fun r => if r = "special-get-raises" then p.followText "special-get-raises" else p.followText r) = p.followText := by
    funext r
    by_cases h : r = "special-get-raises"
    · rw [if_pos h, h]
    · rw [if_neg h]
  show (⟨d, { p with followText := fun r => if r = "special-get-raises" then p.followText "special-get-raises" else p.followText r }⟩ : World) = ⟨d, p⟩
  rw [e]
theorem runT (w : World) : HandSHeadRun.RunEq R (PySem.W.view R.prog [72]) hk ob 20000 loose (setFT w true) := by
  intro os
  kernel_rfl
theorem runF (w : World) : HandSHeadRun.RunEq R (PySem.W.view R.prog [72]) hk ob 20000 loose (setFT w false) := by
  intro os
  kernel_rfl
theorem run (w : World) : HandSHeadRun.RunEq R (PySem.W.view R.prog [72]) hk ob 20000 loose w := by
  rw [← setFT_eq w]
  cases w.params.followText "special-get-raises"
  · exact runF w
  · exact runT w
theorem chk : ldB ld = true := by decide +kernel
end K06
open PySem PySem.W PySem.Calls PyProof.Rows
theorem PySem.Challenge.cw_handkept_k06_bounds_of_programs_holds : PySem.Challenge.rw_handkept_k06_bounds_of_programs.Holds := by
  w_on; o_law
  refine HandSHeadRun.head_any (r := K06.R) (q := view K06.R.prog [72]) (H := K06.hk) (ob := K06.ob) (M := 20000) (loose := K06.loose) (d := HandSHeadRun.topDef K06.R.prog 72) (kwd := []) K06.ob_eq
    (by kernel_rfl) (fun s => by kernel_rfl) K06.run (by kernel_rfl) (by kernel_rfl) (by kernel_rfl) (by rfl) (by first | assumption | decide +kernel) (by decide +kernel) ⟨rfl, rfl, rfl, rfl, rfl, by decide +kernel⟩ ?hw ?hc
  case hw => w_witness2
  case hc =>
    exact Mi.law_tab (l := PySem.Challenge.rw_handkept_k06_bounds_of_programs) (n := 63) (k := 60) (L := K06.ld) (lw := 822) (x := "_law_script") rfl (by decide) (by kernel_rfl) ⟨⟨rfl, by decide, by decide⟩, rfl⟩ (by decide) (by kernel_rfl) (by decide +kernel) (by decide +kernel) rfl rfl rfl rfl K06.chk (by rfl) (by decide +kernel) K06.pure_run
