import PyProof.Rows.All
import Wide.All
import OpenK.AllK
import Wide.FinOn
import HandS.ForMost
import KE.KExcSuper
import HandS.ForExc
import HandS.ExcInit
import HandS.FStr
import KE.KExcIs
import HandS.ExcField
import PyProof.ReprRoads
import HandS.Defaults
import KE.SortData
import HandS.Strs
import HandS.SetFor
import HandS.IsInst
import HandS.RaiseMore
import HandS.Style
import HandS.TupAny
import HandS.Small
import KE.IntTextLaws
import HandS.Text
import KE.KStateDown
import HandS.More
import HandS.WordsExc
import HandS.Head0
import HandS.Head1
import HandS.Head2
import HandS.HeadEnd
import HandS.HeadHook1
import HandS.HeadHook2
import PySem.Challenge.RW_toldroads_k65_whole_texts_read
set_option Elab.async false
set_option linter.all false
set_option maxRecDepth 100000
set_option maxHeartbeats 0
section
/-! Tx: the text by places; each def's names by slots (printed by gen_tx.py). -/
namespace T65
open PySem PySem.Spec PyProof.Rows L2
def top (i : Nat) : Stmt := PySem.Challenge.pw_toldroads_k65_whole_texts_read.main.body.getD i (.Pass ⟨0, 0, 0, 0⟩)
abbrev s_SyntaxProblem_init : Stmt := inClass (top 2) 0
abbrev s_is_name : Stmt := top 9
abbrev s_figures_in : Stmt := top 10
abbrev s_is_letter : Stmt := top 11
abbrev s_tokens_of : Stmt := top 24
abbrev s_Line_init : Stmt := inClass (top 25) 0
abbrev s_Line_peek : Stmt := inClass (top 25) 1
abbrev s_Line_take : Stmt := inClass (top 25) 2
abbrev s_Line_end : Stmt := inClass (top 25) 3
abbrev s_Line_integer : Stmt := inClass (top 25) 4
abbrev s_Line_read_rule : Stmt := inClass (top 25) 5
abbrev s_Line_some_letters : Stmt := inClass (top 25) 6
abbrev s_Line_some_rules : Stmt := inClass (top 25) 7
abbrev s_format_rule : Stmt := top 26
abbrev s_parse_rule : Stmt := top 27
abbrev s_format_word : Stmt := top 28
abbrev s_parse_word : Stmt := top 29
abbrev s_format_route : Stmt := top 30
abbrev s_parse_route : Stmt := top 31
abbrev s_format_positions : Stmt := top 32
abbrev s_parse_positions : Stmt := top 33
abbrev s_lines_of : Stmt := top 34
abbrev s_format_book : Stmt := top 35
abbrev s_parse_book : Stmt := top 36
abbrev s_format_net : Stmt := top 37
abbrev s_read_places : Stmt := top 38
abbrev s_read_place : Stmt := top 39
abbrev s_parse_net : Stmt := top 40
abbrev s_law_kneaded : Stmt := top 42
abbrev s_law_pot_of : Stmt := top 43
abbrev s_law_below : Stmt := top 44
abbrev s_law_pick : Stmt := top 45
abbrev s_law_same : Stmt := top 46
abbrev s_law_some_letters : Stmt := top 47
abbrev s_law_drawn_rule : Stmt := top 48
abbrev s_law_parts_of : Stmt := top 49
abbrev s_law_sizes_of : Stmt := top 50
abbrev s_law_fit_rule : Stmt := top 51
abbrev s_law_is_letter : Stmt := top 52
abbrev s_law_tokens : Stmt := top 53
abbrev s_law_integer_in : Stmt := top 54
abbrev s_law_is_name : Stmt := top 55
abbrev s_law_is_problem : Stmt := top 56
abbrev s_law_fail : Stmt := top 57
abbrev s_law_next : Stmt := top 58
abbrev s_law_made_reader : Stmt := top 59
abbrev s_law_read_rule : Stmt := top 60
abbrev s_law_read_letter : Stmt := top 61
abbrev s_law_whole : Stmt := top 62
abbrev s_law_read_some : Stmt := top 63
abbrev s_law_read_route : Stmt := top 64
abbrev s_law_line_readers : Stmt := top 65
abbrev s_law_read_book : Stmt := top 66
abbrev s_law_read_net : Stmt := top 67
abbrev s_law_read_road : Stmt := top 68
abbrev s_law_read : Stmt := top 69
abbrev s_law_parsed : Stmt := top 70
abbrev s_law_rule_text : Stmt := top 71
abbrev s_law_some_things : Stmt := top 72
abbrev s_law_written : Stmt := top 73
abbrev s_law_changed_text : Stmt := top 74
abbrev s_law : Stmt := top 75
abbrev n_SyntaxProblem_init : List PySem.Str := ["self", "line", "column"]
abbrev p_SyntaxProblem_init : List PySem.Str := ["self", "line", "column"]
abbrev n_is_name : List PySem.Str := ["thing", "sign"]
abbrev p_is_name : List PySem.Str := ["thing"]
theorem sc_is_name : FnScope n_is_name p_is_name (defScope s_is_name) := ⟨rfl, rfl, rfl, by decide +kernel, rfl, by decide +kernel, by decide +kernel⟩
abbrev n_figures_in : List PySem.Str := ["text", "most", "sign"]
abbrev p_figures_in : List PySem.Str := ["text", "most"]
theorem sc_figures_in : FnScope n_figures_in p_figures_in (defScope s_figures_in) := ⟨rfl, rfl, rfl, by decide +kernel, rfl, by decide +kernel, by decide +kernel⟩
abbrev n_is_letter : List PySem.Str := ["thing", "name", "mark", "age"]
abbrev p_is_letter : List PySem.Str := ["thing"]
theorem sc_is_letter : FnScope n_is_letter p_is_letter (defScope s_is_letter) := ⟨rfl, rfl, rfl, by decide +kernel, rfl, by decide +kernel, by decide +kernel⟩
abbrev n_tokens_of : List PySem.Str := ["line", "found", "place", "end"]
abbrev p_tokens_of : List PySem.Str := ["line"]
theorem sc_tokens_of : FnScope n_tokens_of p_tokens_of (defScope s_tokens_of) := ⟨rfl, rfl, rfl, by decide +kernel, rfl, by decide +kernel, by decide +kernel⟩
abbrev n_Line_init : List PySem.Str := ["self", "line", "number"]
abbrev p_Line_init : List PySem.Str := ["self", "line", "number"]
theorem sc_Line_init : FnScope n_Line_init p_Line_init (defScope s_Line_init) := ⟨rfl, rfl, rfl, by decide +kernel, rfl, by decide +kernel, by decide +kernel⟩
abbrev n_Line_peek : List PySem.Str := ["self"]
abbrev p_Line_peek : List PySem.Str := ["self"]
theorem sc_Line_peek : FnScope n_Line_peek p_Line_peek (defScope s_Line_peek) := ⟨rfl, rfl, rfl, by decide +kernel, rfl, by decide +kernel, by decide +kernel⟩
abbrev n_Line_take : List PySem.Str := ["self", "is_right", "token", "column"]
abbrev p_Line_take : List PySem.Str := ["self", "is_right"]
theorem sc_Line_take : FnScope n_Line_take p_Line_take (defScope s_Line_take) := ⟨rfl, rfl, rfl, by decide +kernel, rfl, by decide +kernel, by decide +kernel⟩
abbrev n_Line_end : List PySem.Str := ["self"]
abbrev p_Line_end : List PySem.Str := ["self"]
theorem sc_Line_end : FnScope n_Line_end p_Line_end (defScope s_Line_end) := ⟨rfl, rfl, rfl, by decide +kernel, rfl, by decide +kernel, by decide +kernel⟩
abbrev n_Line_integer : List PySem.Str := ["self", "most", "found"]
abbrev p_Line_integer : List PySem.Str := ["self", "most"]
theorem sc_Line_integer : FnScope n_Line_integer p_Line_integer (defScope s_Line_integer) := ⟨rfl, rfl, rfl, by decide +kernel, rfl, by decide +kernel, by decide +kernel⟩
abbrev n_Line_read_rule : List PySem.Str := ["self", "level", "is_kind", "kind", "found"]
abbrev p_Line_read_rule : List PySem.Str := ["self", "level"]
theorem sc_Line_read_rule : FnScope n_Line_read_rule p_Line_read_rule (defScope s_Line_read_rule) := ⟨rfl, rfl, rfl, by decide +kernel, rfl, by decide +kernel, by decide +kernel⟩
abbrev n_Line_some_letters : List PySem.Str := ["self", "found"]
abbrev p_Line_some_letters : List PySem.Str := ["self"]
theorem sc_Line_some_letters : FnScope n_Line_some_letters p_Line_some_letters (defScope s_Line_some_letters) := ⟨rfl, rfl, rfl, by decide +kernel, rfl, by decide +kernel, by decide +kernel⟩
abbrev n_Line_some_rules : List PySem.Str := ["self", "level", "found"]
abbrev p_Line_some_rules : List PySem.Str := ["self", "level"]
theorem sc_Line_some_rules : FnScope n_Line_some_rules p_Line_some_rules (defScope s_Line_some_rules) := ⟨rfl, rfl, rfl, by decide +kernel, rfl, by decide +kernel, by decide +kernel⟩
abbrev n_format_rule : List PySem.Str := ["rule", "part"]
abbrev p_format_rule : List PySem.Str := ["rule"]
theorem sc_format_rule : FnScope n_format_rule p_format_rule (defScope s_format_rule) := ⟨rfl, rfl, rfl, by decide +kernel, rfl, by decide +kernel, by decide +kernel⟩
abbrev n_parse_rule : List PySem.Str := ["text", "line", "found"]
abbrev p_parse_rule : List PySem.Str := ["text"]
theorem sc_parse_rule : FnScope n_parse_rule p_parse_rule (defScope s_parse_rule) := ⟨rfl, rfl, rfl, by decide +kernel, rfl, by decide +kernel, by decide +kernel⟩
abbrev n_format_word : List PySem.Str := ["word"]
abbrev p_format_word : List PySem.Str := ["word"]
theorem sc_format_word : FnScope n_format_word p_format_word (defScope s_format_word) := ⟨rfl, rfl, rfl, by decide +kernel, rfl, by decide +kernel, by decide +kernel⟩
abbrev n_parse_word : List PySem.Str := ["text", "line", "found"]
abbrev p_parse_word : List PySem.Str := ["text"]
theorem sc_parse_word : FnScope n_parse_word p_parse_word (defScope s_parse_word) := ⟨rfl, rfl, rfl, by decide +kernel, rfl, by decide +kernel, by decide +kernel⟩
abbrev n_format_route : List PySem.Str := ["route", "start", "end", "name"]
abbrev p_format_route : List PySem.Str := ["route"]
theorem sc_format_route : FnScope n_format_route p_format_route (defScope s_format_route) := ⟨rfl, rfl, rfl, by decide +kernel, rfl, by decide +kernel, by decide +kernel⟩
abbrev n_parse_route : List PySem.Str := ["text", "line", "found", "start", "end", "number", "name"]
abbrev p_parse_route : List PySem.Str := ["text"]
theorem sc_parse_route : FnScope n_parse_route p_parse_route (defScope s_parse_route) := ⟨rfl, rfl, rfl, by decide +kernel, rfl, by decide +kernel, by decide +kernel⟩
abbrev n_format_positions : List PySem.Str := ["positions", "place"]
abbrev p_format_positions : List PySem.Str := ["positions"]
theorem sc_format_positions : FnScope n_format_positions p_format_positions (defScope s_format_positions) := ⟨rfl, rfl, rfl, by decide +kernel, rfl, by decide +kernel, by decide +kernel⟩
abbrev n_parse_positions : List PySem.Str := ["text", "line", "found"]
abbrev p_parse_positions : List PySem.Str := ["text"]
theorem sc_parse_positions : FnScope n_parse_positions p_parse_positions (defScope s_parse_positions) := ⟨rfl, rfl, rfl, by decide +kernel, rfl, by decide +kernel, by decide +kernel⟩
abbrev n_lines_of : List PySem.Str := ["text", "found", "place", "line"]
abbrev p_lines_of : List PySem.Str := ["text"]
theorem sc_lines_of : FnScope n_lines_of p_lines_of (defScope s_lines_of) := ⟨rfl, rfl, rfl, by decide +kernel, rfl, by decide +kernel, by decide +kernel⟩
abbrev n_format_book : List PySem.Str := ["book", "name", "rule"]
abbrev p_format_book : List PySem.Str := ["book"]
theorem sc_format_book : FnScope n_format_book p_format_book (defScope s_format_book) := ⟨rfl, rfl, rfl, by decide +kernel, rfl, by decide +kernel, by decide +kernel⟩
abbrev n_parse_book : List PySem.Str := ["text", "found", "line", "name", "rule"]
abbrev p_parse_book : List PySem.Str := ["text"]
theorem sc_parse_book : FnScope n_parse_book p_parse_book (defScope s_parse_book) := ⟨rfl, rfl, rfl, by decide +kernel, rfl, by decide +kernel, by decide +kernel⟩
abbrev n_format_net : List PySem.Str := ["net", "lines", "place", "letter", "start", "end", "cost"]
abbrev p_format_net : List PySem.Str := ["net"]
theorem sc_format_net : FnScope n_format_net p_format_net (defScope s_format_net) := ⟨rfl, rfl, rfl, by decide +kernel, rfl, by decide +kernel, by decide +kernel⟩
abbrev n_read_places : List PySem.Str := ["line", "found", "place", "is_next"]
abbrev p_read_places : List PySem.Str := ["line"]
theorem sc_read_places : FnScope n_read_places p_read_places (defScope s_read_places) := ⟨rfl, rfl, rfl, by decide +kernel, rfl, by decide +kernel, by decide +kernel⟩
abbrev n_read_place : List PySem.Str := ["line", "places", "place"]
abbrev p_read_place : List PySem.Str := ["line", "places"]
theorem sc_read_place : FnScope n_read_place p_read_place (defScope s_read_place) := ⟨rfl, rfl, rfl, by decide +kernel, rfl, by decide +kernel, by decide +kernel⟩
abbrev n_parse_net : List PySem.Str := ["text", "lines", "places", "roads", "line", "letter", "start", "end"]
abbrev p_parse_net : List PySem.Str := ["text"]
theorem sc_parse_net : FnScope n_parse_net p_parse_net (defScope s_parse_net) := ⟨rfl, rfl, rfl, by decide +kernel, rfl, by decide +kernel, by decide +kernel⟩
abbrev n_law_kneaded : List PySem.Str := ["_law_seed", "_law_lap", "_law_prime", "_law_amount", "_law_again"]
abbrev p_law_kneaded : List PySem.Str := ["_law_seed", "_law_lap"]
theorem sc_law_kneaded : FnScope n_law_kneaded p_law_kneaded (defScope s_law_kneaded) := ⟨rfl, rfl, rfl, by decide +kernel, rfl, by decide +kernel, by decide +kernel⟩
abbrev n_law_pot_of : List PySem.Str := ["_law_script", "_law_cells", "_law_place", "_law_cell"]
abbrev p_law_pot_of : List PySem.Str := ["_law_script"]
theorem sc_law_pot_of : FnScope n_law_pot_of p_law_pot_of (defScope s_law_pot_of) := ⟨rfl, rfl, rfl, by decide +kernel, rfl, by decide +kernel, by decide +kernel⟩
abbrev n_law_below : List PySem.Str := ["_law_pot", "_law_bound", "_law_cells", "_law_place", "_law_amount", "_law_found"]
abbrev p_law_below : List PySem.Str := ["_law_pot", "_law_bound"]
theorem sc_law_below : FnScope n_law_below p_law_below (defScope s_law_below) := ⟨rfl, rfl, rfl, by decide +kernel, rfl, by decide +kernel, by decide +kernel⟩
abbrev n_law_pick : List PySem.Str := ["_law_pot", "_law_items"]
abbrev p_law_pick : List PySem.Str := ["_law_pot", "_law_items"]
theorem sc_law_pick : FnScope n_law_pick p_law_pick (defScope s_law_pick) := ⟨rfl, rfl, rfl, by decide +kernel, rfl, by decide +kernel, by decide +kernel⟩
abbrev n_law_same : List PySem.Str := ["_law_one", "_law_other"]
abbrev p_law_same : List PySem.Str := ["_law_one", "_law_other"]
theorem sc_law_same : FnScope n_law_same p_law_same (defScope s_law_same) := ⟨rfl, rfl, rfl, by decide +kernel, rfl, by decide +kernel, by decide +kernel⟩
abbrev n_law_some_letters : List PySem.Str := ["_law_pot"]
abbrev p_law_some_letters : List PySem.Str := ["_law_pot"]
theorem sc_law_some_letters : FnScope n_law_some_letters p_law_some_letters (defScope s_law_some_letters) := ⟨rfl, rfl, rfl, by decide +kernel, rfl, by decide +kernel, by decide +kernel⟩
abbrev n_law_drawn_rule : List PySem.Str := ["_law_pot", "_law_letters", "_law_deep", "_law_way", "_law_parts", "_law_place"]
abbrev p_law_drawn_rule : List PySem.Str := ["_law_pot", "_law_letters", "_law_deep"]
theorem sc_law_drawn_rule : FnScope n_law_drawn_rule p_law_drawn_rule (defScope s_law_drawn_rule) := ⟨rfl, rfl, rfl, by decide +kernel, rfl, by decide +kernel, by decide +kernel⟩
abbrev n_law_parts_of : List PySem.Str := ["_law_rule"]
abbrev p_law_parts_of : List PySem.Str := ["_law_rule"]
theorem sc_law_parts_of : FnScope n_law_parts_of p_law_parts_of (defScope s_law_parts_of) := ⟨rfl, rfl, rfl, by decide +kernel, rfl, by decide +kernel, by decide +kernel⟩
abbrev n_law_sizes_of : List PySem.Str := ["_law_rule", "_law_found", "_law_part", "_law_more"]
abbrev p_law_sizes_of : List PySem.Str := ["_law_rule"]
theorem sc_law_sizes_of : FnScope n_law_sizes_of p_law_sizes_of (defScope s_law_sizes_of) := ⟨rfl, rfl, rfl, by decide +kernel, rfl, by decide +kernel, by decide +kernel⟩
abbrev n_law_fit_rule : List PySem.Str := ["_law_pot", "_law_letters", "_law_again", "_law_rule", "_law_sizes"]
abbrev p_law_fit_rule : List PySem.Str := ["_law_pot", "_law_letters"]
theorem sc_law_fit_rule : FnScope n_law_fit_rule p_law_fit_rule (defScope s_law_fit_rule) := ⟨rfl, rfl, rfl, by decide +kernel, rfl, by decide +kernel, by decide +kernel⟩
abbrev n_law_is_letter : List PySem.Str := ["_law_thing", "_law_parts", "_law_sign"]
abbrev p_law_is_letter : List PySem.Str := ["_law_thing"]
theorem sc_law_is_letter : FnScope n_law_is_letter p_law_is_letter (defScope s_law_is_letter) := ⟨rfl, rfl, rfl, by decide +kernel, rfl, by decide +kernel, by decide +kernel⟩
abbrev n_law_tokens : List PySem.Str := ["_law_line", "_law_signs", "_law_found", "_law_at", "_law_end"]
abbrev p_law_tokens : List PySem.Str := ["_law_line"]
theorem sc_law_tokens : FnScope n_law_tokens p_law_tokens (defScope s_law_tokens) := ⟨rfl, rfl, rfl, by decide +kernel, rfl, by decide +kernel, by decide +kernel⟩
abbrev n_law_integer_in : List PySem.Str := ["_law_word", "_law_most", "_law_sign"]
abbrev p_law_integer_in : List PySem.Str := ["_law_word", "_law_most"]
theorem sc_law_integer_in : FnScope n_law_integer_in p_law_integer_in (defScope s_law_integer_in) := ⟨rfl, rfl, rfl, by decide +kernel, rfl, by decide +kernel, by decide +kernel⟩
abbrev n_law_is_name : List PySem.Str := ["_law_word", "_law_sign"]
abbrev p_law_is_name : List PySem.Str := ["_law_word"]
theorem sc_law_is_name : FnScope n_law_is_name p_law_is_name (defScope s_law_is_name) := ⟨rfl, rfl, rfl, by decide +kernel, rfl, by decide +kernel, by decide +kernel⟩
abbrev n_law_is_problem : List PySem.Str := ["_law_thing"]
abbrev p_law_is_problem : List PySem.Str := ["_law_thing"]
theorem sc_law_is_problem : FnScope n_law_is_problem p_law_is_problem (defScope s_law_is_problem) := ⟨rfl, rfl, rfl, by decide +kernel, rfl, by decide +kernel, by decide +kernel⟩
abbrev n_law_fail : List PySem.Str := ["_law_reader"]
abbrev p_law_fail : List PySem.Str := ["_law_reader"]
theorem sc_law_fail : FnScope n_law_fail p_law_fail (defScope s_law_fail) := ⟨rfl, rfl, rfl, by decide +kernel, rfl, by decide +kernel, by decide +kernel⟩
abbrev n_law_next : List PySem.Str := ["_law_reader"]
abbrev p_law_next : List PySem.Str := ["_law_reader"]
theorem sc_law_next : FnScope n_law_next p_law_next (defScope s_law_next) := ⟨rfl, rfl, rfl, by decide +kernel, rfl, by decide +kernel, by decide +kernel⟩
abbrev n_law_made_reader : List PySem.Str := ["_law_line", "_law_number"]
abbrev p_law_made_reader : List PySem.Str := ["_law_line", "_law_number"]
theorem sc_law_made_reader : FnScope n_law_made_reader p_law_made_reader (defScope s_law_made_reader) := ⟨rfl, rfl, rfl, by decide +kernel, rfl, by decide +kernel, by decide +kernel⟩
abbrev n_law_read_rule : List PySem.Str := ["_law_reader", "_law_level", "_law_kind", "_law_found", "_law_one"]
abbrev p_law_read_rule : List PySem.Str := ["_law_reader", "_law_level"]
theorem sc_law_read_rule : FnScope n_law_read_rule p_law_read_rule (defScope s_law_read_rule) := ⟨rfl, rfl, rfl, by decide +kernel, rfl, by decide +kernel, by decide +kernel⟩
abbrev n_law_read_letter : List PySem.Str := ["_law_reader", "_law_letter"]
abbrev p_law_read_letter : List PySem.Str := ["_law_reader"]
theorem sc_law_read_letter : FnScope n_law_read_letter p_law_read_letter (defScope s_law_read_letter) := ⟨rfl, rfl, rfl, by decide +kernel, rfl, by decide +kernel, by decide +kernel⟩
abbrev n_law_whole : List PySem.Str := ["_law_reader", "_law_found"]
abbrev p_law_whole : List PySem.Str := ["_law_reader", "_law_found"]
theorem sc_law_whole : FnScope n_law_whole p_law_whole (defScope s_law_whole) := ⟨rfl, rfl, rfl, by decide +kernel, rfl, by decide +kernel, by decide +kernel⟩
abbrev n_law_read_some : List PySem.Str := ["_law_reader", "_law_most", "_law_found", "_law_word"]
abbrev p_law_read_some : List PySem.Str := ["_law_reader", "_law_most"]
theorem sc_law_read_some : FnScope n_law_read_some p_law_read_some (defScope s_law_read_some) := ⟨rfl, rfl, rfl, by decide +kernel, rfl, by decide +kernel, by decide +kernel⟩
abbrev n_law_read_route : List PySem.Str := ["_law_reader", "_law_found", "_law_step", "_law_place", "_law_word", "_law_number"]
abbrev p_law_read_route : List PySem.Str := ["_law_reader"]
theorem sc_law_read_route : FnScope n_law_read_route p_law_read_route (defScope s_law_read_route) := ⟨rfl, rfl, rfl, by decide +kernel, rfl, by decide +kernel, by decide +kernel⟩
abbrev n_law_line_readers : List PySem.Str := ["_law_text", "_law_found", "_law_place", "_law_line", "_law_reader"]
abbrev p_law_line_readers : List PySem.Str := ["_law_text"]
theorem sc_law_line_readers : FnScope n_law_line_readers p_law_line_readers (defScope s_law_line_readers) := ⟨rfl, rfl, rfl, by decide +kernel, rfl, by decide +kernel, by decide +kernel⟩
abbrev n_law_read_book : List PySem.Str := ["_law_text", "_law_found", "_law_reader", "_law_name", "_law_rule"]
abbrev p_law_read_book : List PySem.Str := ["_law_text"]
theorem sc_law_read_book : FnScope n_law_read_book p_law_read_book (defScope s_law_read_book) := ⟨rfl, rfl, rfl, by decide +kernel, rfl, by decide +kernel, by decide +kernel⟩
abbrev n_law_read_net : List PySem.Str := ["_law_text", "_law_readers", "_law_reader", "_law_places", "_law_roads", "_law_place", "_law_road"]
abbrev p_law_read_net : List PySem.Str := ["_law_text"]
theorem sc_law_read_net : FnScope n_law_read_net p_law_read_net (defScope s_law_read_net) := ⟨rfl, rfl, rfl, by decide +kernel, rfl, by decide +kernel, by decide +kernel⟩
abbrev n_law_read_road : List PySem.Str := ["_law_reader", "_law_places", "_law_many", "_law_found", "_law_place", "_law_word", "_law_number", "_law_is_right"]
abbrev p_law_read_road : List PySem.Str := ["_law_reader", "_law_places", "_law_many"]
theorem sc_law_read_road : FnScope n_law_read_road p_law_read_road (defScope s_law_read_road) := ⟨rfl, rfl, rfl, by decide +kernel, rfl, by decide +kernel, by decide +kernel⟩
abbrev n_law_read : List PySem.Str := ["_law_way", "_law_text", "_law_reader"]
abbrev p_law_read : List PySem.Str := ["_law_way", "_law_text"]
theorem sc_law_read : FnScope n_law_read p_law_read (defScope s_law_read) := ⟨rfl, rfl, rfl, by decide +kernel, rfl, by decide +kernel, by decide +kernel⟩
abbrev n_law_parsed : List PySem.Str := ["_law_way", "_law_text", "_law_caught", "_law_found", "error"]
abbrev p_law_parsed : List PySem.Str := ["_law_way", "_law_text"]
theorem sc_law_parsed : FnScope n_law_parsed p_law_parsed (defScope s_law_parsed) := ⟨rfl, rfl, rfl, by decide +kernel, rfl, by decide +kernel, by decide +kernel⟩
abbrev n_law_rule_text : List PySem.Str := ["_law_rule", "_law_part"]
abbrev p_law_rule_text : List PySem.Str := ["_law_rule"]
theorem sc_law_rule_text : FnScope n_law_rule_text p_law_rule_text (defScope s_law_rule_text) := ⟨rfl, rfl, rfl, by decide +kernel, rfl, by decide +kernel, by decide +kernel⟩
abbrev n_law_some_things : List PySem.Str := ["_law_pot", "_law_letters", "_law_rule", "_law_word", "_law_route", "_law_turn", "_law_name", "_law_spots", "_law_names", "_law_book", "_law_places", "_law_roads", "_law_ends", "_law_net", "_law_rows", "_law_steps", "_law_told", "_law_place", "_law_one", "_law_part", "_law_step", "_law_spot"]
abbrev p_law_some_things : List PySem.Str := ["_law_pot"]
theorem sc_law_some_things : FnScope n_law_some_things p_law_some_things (defScope s_law_some_things) := ⟨rfl, rfl, rfl, by decide +kernel, rfl, by decide +kernel, by decide +kernel⟩
abbrev n_law_written : List PySem.Str := ["_law_way", "_law_thing"]
abbrev p_law_written : List PySem.Str := ["_law_way", "_law_thing"]
theorem sc_law_written : FnScope n_law_written p_law_written (defScope s_law_written) := ⟨rfl, rfl, rfl, by decide +kernel, rfl, by decide +kernel, by decide +kernel⟩
abbrev n_law_changed_text : List PySem.Str := ["_law_pot", "_law_text", "_law_odd", "_law_turn", "_law_at"]
abbrev p_law_changed_text : List PySem.Str := ["_law_pot", "_law_text"]
theorem sc_law_changed_text : FnScope n_law_changed_text p_law_changed_text (defScope s_law_changed_text) := ⟨rfl, rfl, rfl, by decide +kernel, rfl, by decide +kernel, by decide +kernel⟩
abbrev n_law : List PySem.Str := ["_law_script", "_law_pot", "_law_turn", "_law_way", "_law_thing", "_law_text", "_law_before", "_law_again", "_law_bent", "_law_kind"]
abbrev p_law : List PySem.Str := ["_law_script"]
theorem sc_law : FnScope n_law p_law (defScope s_law) := ⟨rfl, rfl, rfl, by decide +kernel, rfl, by decide +kernel, by decide +kernel⟩
end T65
end
section
/-! XA: SyntaxProblem.__init__: super().__init__(f'..'), then two fields. -/
namespace T65
open PySem PySem.Spec PyProof.Rows L2

/-- what the written part says of the class with the super call -/
structure SpC (P : Program) (K : PySem.W.Frag) (mg : Str → Option Value) (C : Addr) : Prop where
  oex : OexC K C
  up : PySem.W.ks_superIn K C C "__init__" = some (some (.builtin "ValueError.__init__"))
  isV : PySem.W.subIn K (.ref C) (.type "ValueError") = some true
  isC : PySem.W.mroIn K C (.ref C) = some true
  opq : PySem.W.nsIn K cStatics "thirdparty.any" = some none
  noS : mg "super" = none
  nL : PySem.W.findIn K (.ref C) "line" = some none
  nC : PySem.W.findIn K (.ref C) "column" = some none
  top : (P.main.scope.names.lookup ("super" : Str)).isSome = false

section
variable {prog : Program} {w : World} {A : Around} {E : Value → Shared → Prop}
/-- the wrapper of ValueError.__init__, called -/
theorem call_mw {h : Heap} {g : Array GenState} {d : Drawn} {t : Nat} {os : OsState} {nm q : Str} {C N : Addr} {bs bm : List Value} {hdct : Bool} {sn : List Str} {sub : List Value} {ab : Bool} {col : Option Bool} {dd : Option Addr} {k0 k1 k2 k3 k5 : Option Value} {u e t0 : Addr} {rest : List Value} {Q : Value → Shared → Prop}
    (hC : h.get? C = some (excClassObj nm q C N bs bm hdct sn sub ab col dd k0 k1 k2 k3 k5 "ValueError.__new__")) (he : h.get? e = some (HandSPX.excO C t0))
    (hu : h.get? u = some (PySem.W.kxs_mw "ValueError.__init__" e)) (hz : rest.length ≤ sizeLine)
    (hq : ∀ h' t1, (∀ b o, b ≠ e → h.get? b = some o → h'.get? b = some o) → h'.get? e = some (HandSPX.excO C t1) → Q .none ⟨h', g, d, t, os⟩) :
    wpAny (model prog w) A (call (.ref u) rest) Q E ⟨h, g, d, t, os⟩ := by
  refine wpAny_call (codeAny_of_tree ?_)
  show wpAny _ A.in1 (callAny (.ref u) ⟨rest, []⟩) _ _ _
  simp only [callAny]
  refine wpAny_bind (wpAny_load hu ?_)
  simp only [PySem.W.kxs_mw, show (Value.type "method-wrapper" == Value.type "method" || Value.type "method-wrapper" == Value.type "builtin_function_or_method" || Value.type "method-wrapper" == Value.type "method-wrapper") = true by decide, if_true]
  refine PySem.W.KFB.if_so (by decide) ?_
  refine wpAny_bind (PySem.W.check_bound_init PySem.F.excBase_ValueError.toExcCallFacts hC he rfl ?_)
  refine wpAny_bind (wpAny_pure (wpAny_pure ?_))
  refine ⟨plainId_quiet PySem.F.excBase_ValueError.init.plain _, codeAny_builtin PySem.F.excBase_ValueError.initEntry ?_⟩
  exact PySem.W.exc_init_tree (cls := .ref C) (t0 := t0) (dv := none) (c2 := .none) (c3 := .none) (b4 := .bool false) he hz fun h' k e' _ => hq h' _ k e'
end

/-! ### the context of that body -/
abbrev envI (qual : Str) (scope : Scope) (L f : Addr) (cd : Value) (cc : Addr) : Env := PySem.W.envX qual scope L f cd [("__class__", cc)]
def cxI (P : Program) (w : World) (K : PySem.W.Frag) (mg : Str → Option Value) (base : Heap) (N : List Str) (qual : Str) (scope : Scope) (f : Addr) (cd : Value) (cc : Addr) (A : Around) (outer : List Env) (s : Shared) (H : Hp) (E : Value → Shared → Prop) : Cx where
  prog := P
  w := w
  K := K
  mg := mg
  base := base
  A := A.deeper (envI qual scope s.heap.objs.size f cd cc)
  N := N
  s_0 := s
  H_0 := H
  env := envI qual scope s.heap.objs.size f cd cc
  outer := outer
  stack := envI qual scope s.heap.objs.size f cd cc :: outer
  ex := []
  calm := true
  fn := fun _ => false
  pn := []
  xe := E

theorem lookup1 {x y : Str} {c d : Addr} (h : List.lookup x [((y : Str), c)] = some d) : x = y ∧ d = c := by
  by_cases e : x = y
  · subst e
    simp [List.lookup] at h
    exact ⟨rfl, h.symm⟩
  · have e' : (x == y) = false := by simpa using e
    simp [List.lookup, e'] at h

theorem inv_I {P : Program} {w : World} {K : PySem.W.Frag} {mg : Str → Option Value} {base : Heap} {N : List Str} {qual : Str} {scope : Scope} {f cc : Addr} {cd : Value} {A : Around} {outer : List Env} {s : Shared} {H : Hp} {E : Value → Shared → Prop}
    {us : List Value} {vs : List V} {h₀ : Heap} {tk : Nat} {ccl : Value} {cld : Option Addr} {cv : Option Value} {csl : Array (Option Value)}
    (hk : scope.kind = .function) (hN : N.Nodup) (hNc : ("__class__" : Str) ∉ N) (hfree : ∀ x k, scope.names.lookup x = some k → k = .cell ∨ k = .free → x = "__class__") (hcell : K.lookup cc = some ⟨ccl, cld, .cell cv, csl⟩)
    (hd : A.handled = none) (e0 : Env0 P w K mg base A outer s H) (hl : vs.length = N.length) (r : Vals vs us)
    (hns : h₀.Ns s.heap.objs.size (fun x => (N.zip us).reverse.lookup x)) (hk0 : ∀ b o, s.heap.get? b = some o → h₀.get? b = some o) :
    Inv (cxI P w K mg base N qual scope f cd cc A outer s H E) [] (vs.map some) H { s with heap := h₀, toks := tk } := by
  have noA : ∀ b : Addr, b ∉ (cxI P w K mg base N qual scope f cd cc A outer s H E).ex := fun b z => absurd (show b ∈ ([] : List Addr) from z) (by simp)
  have hcb : ∃ o, base.get? cc = some o ∧ ∃ v, o.data = .cell v := ⟨_, e0.mod.kin _ _ hcell, cv, rfl⟩
  obtain ⟨oc, hoc, vc, hvc⟩ := hcb
  have cells : ∀ x c, (cxI P w K mg base N qual scope f cd cc A outer s H E).env.cells.lookup x = some c → c = cc := fun x c z => (lookup1 z).2
  refine ⟨⟨e0.mod, hk, rfl, rfl, Nat.le_refl _, fun y z c h1 h2 => ?_, fun y hy => ?_, fun y c z _ => absurd z (by simp [cxI]), fun _ => hd, Around.frames_deeper e0.frames, .inr ⟨rfl, rfl⟩, fun b z => absurd z (noA b), e0.bs, e0.bsz, fun b _ _ => noA b, fun b z => absurd z (noA b), e0.funs, e0.frf⟩,
    rfl, e0.bare, Un.kept hk0, ⟨_, hns, fun i y v h1 h2 h3 => ?_⟩, fun y c h => ?_, e0.hok.fresh (Nat.le_refl _), fun y c h => ?_, fun p hp => absurd (show p ∈ ([] : List (Addr × Obj)) from hp) (by simp), e0.hok.kept hk0, ?_⟩
  · exact ((lookup1 h1).1).trans ((lookup1 h2).1).symm
  · have hy' : y = "__class__" := by
      rcases hy with q | q
      · exact hfree y _ q (.inl rfl)
      · exact hfree y _ q (.inr rfl)
    subst hy'
    exact ⟨cc, by simp [cxI, List.lookup]⟩
  · have e1 : vs[i]? = some v := by
      rw [List.getElem?_map] at h2
      cases z : vs[i]? with
      | none => rw [z] at h2; cases h2
      | some a => rw [z] at h2; cases h2; rfl
    obtain ⟨u, hu, rv⟩ := r.get e1
    refine ⟨u, rv, ?_⟩
    have h1' : N[i]? = some y := h1
    have hlu : us.length = N.length := (Vals.length r).symm.trans hl
    have lk : (N.zip us).reverse.lookup y = some u := by
      have key : ∀ (N : List Str) (us : List Value) (i : Nat), N.Nodup → N[i]? = some y → us[i]? = some u → ∀ acc : List (Str × Value), ((N.zip us).reverse ++ acc).lookup y = some u := by
        intro N
        induction N with
        | nil => intro us i _ h; simp at h
        | cons n N ih =>
          intro us i nd h1 h2 acc
          cases us with
          | nil => simp at h2
          | cons v us =>
            cases i with
            | zero =>
              simp at h1 h2
              subst h1 h2
              have nin : ∀ (N : List Str) (us : List Value) (acc : List (Str × Value)), n ∉ N → ((N.zip us).reverse ++ acc).lookup n = acc.lookup n := by
                intro N
                induction N with
                | nil => intro us acc _; simp
                | cons m N ih2 =>
                  intro us acc hm
                  cases us with
                  | nil => simp
                  | cons u us =>
                    have hm1 : n ≠ m := fun e => hm (by rw [e]; exact List.mem_cons_self ..)
                    have hm2 : n ∉ N := fun e => hm (List.mem_cons_of_mem _ e)
                    rw [List.zip_cons_cons, List.reverse_cons, List.append_assoc, List.singleton_append, ih2 us _ hm2]
                    have e' : (n == m) = false := by simpa using hm1
                    simp [List.lookup, e']
              rw [List.zip_cons_cons, List.reverse_cons, List.append_assoc, List.singleton_append, nin N us _ (List.nodup_cons.mp nd).1]
              simp [List.lookup]
            | succ i =>
              rw [List.zip_cons_cons, List.reverse_cons, List.append_assoc, List.singleton_append]
              exact ih us i (List.nodup_cons.mp nd).2 (by simpa using h1) (by simpa using h2) _
      have := key N us i hN h1' hu []
      rwa [List.append_nil] at this
    have hkl : scope.names.lookup y = some .local := by
      rcases h3 with q | q | q
      · exact q
      · exact absurd (List.mem_of_getElem? h1') (by rw [hfree y _ q (.inl rfl)]; exact hNc)
      · exact absurd (List.mem_of_getElem? h1') (by rw [hfree y _ q (.inr rfl)]; exact hNc)
    exact .inl ⟨hkl, lk⟩
  · have e := cells y c h
    subst e
    exact ⟨vc, ⟨oc, hk0 _ _ (e0.bs _ _ hoc).1, hvc⟩⟩
  · have e := cells y c h
    subst e
    exact (e0.bs _ _ hoc).2
  · show (vs.map some).length = N.length
    rw [List.length_map]
    exact hl

/-- the wrapper called with written arguments -/
theorem callWith_sup {X : Cx} {pins : List (Addr × Obj)} {σ : L2.St} {H : Hp} {s : Shared} {e : Expr} {rest : List Expr} {pos : Pos} {u a C : Addr} {Q : Value → Shared → Prop} (T : OexC X.K C)
    (I : Inv X ((u, PySem.W.kxs_mw "ValueError.__init__" a) :: pins) σ H s)
    (h : ∃ t, PA X (e :: rest) t ∧ t σ H fun vs H1 => vs.length ≤ 1000 ∧ H1 a = some (exo a C none) ∧ ∀ s', Inv X pins σ H1 s' → Q .none s')
    (he : starEach (e :: rest) X.env = (false, eval e X.env) :: starEach rest X.env := by rfl) (hpl : (backTo pos (starEach rest X.env)).any (·.1) = false := by rfl) :
    wpAny (model X.prog X.w) X.A (callWith pos (.ref u) [] (backTo pos (starEach (e :: rest) X.env)) []) Q X.xe s := by
  obtain ⟨t, ha, q⟩ := h
  have hu0 := I.pin _ (List.mem_append_right _ (List.mem_cons_self ..))
  have hmw := hu0.1
  refine PySem.W.kxs_callWith1 (h₀ := Att.noObjs s.heap) (L := u + 1) (news := [(u, PySem.W.kxs_mw "ValueError.__init__" a)]) (i := "ValueError.__init__") (x := a) (fun p hp => by
    have e : p = (u, PySem.W.kxs_mw "ValueError.__init__" a) := by simpa using hp
    subst e
    exact ⟨hmw, Nat.ne_of_lt (Nat.lt_succ_self _), Att.noObjs_get _ _⟩) (List.mem_singleton.mpr rfl) ?_ he hpl
  refine thn (ha.run pos _ s σ H _ I q) fun ws s3 h3 => ?_
  obtain ⟨vs3, H3, I3, r3, hl, hx, q3⟩ := h3
  have hu3 := (I3.pin _ (List.mem_append_right _ (List.mem_cons_self ..))).1
  refine ⟨hu3, ?_⟩
  obtain ⟨nm, qn, N, bs, bm, sn, sub, ab, col, dd, k0, k1, k2, k3, k5, hC, hbm⟩ := T.cls
  obtain ⟨t3, ho3⟩ := exo_at I3.hok hx
  have hC3 := I3.kIn _ _ hC
  have I4 : Inv X pins σ H3 s3 := I3.pins_of fun p hp => I3.pin p (List.mem_append_right _ (List.mem_cons_of_mem _ hp))
  obtain ⟨h3, g3, d3, tk3, os3⟩ := s3
  have hw : ws.length ≤ sizeLine := by
    rw [← Vals.length r3, sizeLine_eq]
    omega
  refine call_mw hC3 ho3 hu3 hw fun h4 t4 k4 hx4 => ?_
  have J := I4.write (t' := tk3) (x := a) (e := a) (o := exo a C none) (by rw [hx]; exact True.intro) (.inl rfl) k4 ⟨_, hx4⟩ (exo_ok hx4)
  have eu : upd H3 a (exo a C none) = H3 := by
    funext b
    by_cases hb : b = a
    · rw [hb, upd_same, hx]
    · rw [upd_ne hb]
  rw [eu] at J
  exact q3 _ J
end T65
end
section
/-! XB: SyntaxProblem.__init__ keeps its promise; raise SyntaxProblem(..). -/
namespace T65
open PySem PySem.Spec PyProof.Rows L2

/-- the object at a gets a dict with the two fields -/
def spSPI (C : Addr) : Sp := fun vs H Q _ => ∃ (a : Addr) (n c : Int), vs = [.ref a, .int n, .int c] ∧ H a = some (exo a C none) ∧ n.natAbs.log2 < 1000 ∧ c.natAbs.log2 < 1000 ∧
  ∀ (d : Addr) (H' : Hp), H d = none → d ≠ a → H' a = some (exo a C (some d)) → H' d = some (exd d [("column", .int c), ("line", .int n)]) → (∀ b, b ≠ a → b ≠ d → H' b = H b) → Q .non H'

theorem itl {i : Int} (h : i.natAbs.log2 < 1000) : (Str.ofString (toString i)).length ≤ 1921 := int_text_len_1921 (Nat.lt_trans h (by decide))

section
variable {P : Program} {w : World} {K : PySem.W.Frag} {mg : Str → Option Value} {base : Heap}
theorem ok_spinit {k : Nat} {f C cc cda : Addr} {kV doc pm ct oc : Value} {an od : Option Addr} {osl : Array (Option Value)} {ccl cl : Value} {cdd cld : Option Addr} {ccs csl : Array (Option Value)} {cvs : Array Value} {file : Str} {tf : Tok}
    (lk : K.lookup f = some ⟨oc, od, .func (PySem.W.fnX "__init__" "SyntaxProblem.__init__" (defArgs s_SyntaxProblem_init) (defBody s_SyntaxProblem_init) (defScope s_SyntaxProblem_init) [("__class__", cc)] .none kV doc pm an (.ref cda) ct), osl⟩)
    (hcd : PySem.W.codeIn K (.ref cda) "SyntaxProblem.__init__" = true) (hco : K.lookup cda = some ⟨ccl, cdd, .fields cvs, ccs⟩) (hvs : cvs[2]? = some (.str file tf)) (hfile : ((P.main.file : Str) == file) = true)
    (hcell : K.lookup cc = some ⟨cl, cld, .cell (some (.ref C)), csl⟩) (T : SpC P K mg C) :
    FnOk P w K mg base CX0 (k + 2) f (PySem.W.fnX "__init__" "SyntaxProblem.__init__" (defArgs s_SyntaxProblem_init) (defBody s_SyntaxProblem_init) (defScope s_SyntaxProblem_init) [("__class__", cc)] .none kV doc pm an (.ref cda) ct) p_SyntaxProblem_init (spSPI C) := by
  refine ⟨fun vs H Q E h => by obtain ⟨a, n, c, rfl, _⟩ := h; rfl, fun A outer s H args us vs Q E hr e0 hb r hsp => ?_⟩
  obtain ⟨a, n, c, rfl, ha, hn, hc, hq⟩ := hsp
  have KX : K.In s.heap := e0.mod.kin.keeps fun b o e => (e0.bs b o e).1
  have lim : s.heap.NoLimit := e0.mod.nolimit.keeps fun b o e => (e0.bs b o e).1
  have hbs : ∀ b o, base.get? b = some o → s.heap.get? b = some o := fun b o e => (e0.bs b o e).1
  refine PySem.ks_codeAny_call_defAt (binds := n_SyntaxProblem_init.zip us) hr.depth (KX _ _ lk) rfl lim (PySem.W.codeRec_of KX hcd) rfl hb (show ∀ x ∈ (defScope s_SyntaxProblem_init).names, x.2 ≠ .cell by decide +kernel) ?_ (fun h₀ hns hk0 => ?_) (by rfl) (by rfl) (by rfl)
  · intro y hy
    have hy1 := (List.of_mem_zip hy).1
    simp only [List.mem_cons, List.not_mem_nil, or_false] at hy1
    show (defScope s_SyntaxProblem_init).names.lookup y.1 = some .local
    rcases hy1 with e | e | e <;> rw [e] <;> decide +kernel
  have hfr : ∀ p ∈ (defScope s_SyntaxProblem_init).names, p.2 = .cell ∨ p.2 = .free → p.1 = ("__class__" : Str) := by decide +kernel
  have I : Inv (cxI P w K mg base n_SyntaxProblem_init "SyntaxProblem.__init__" (defScope s_SyntaxProblem_init) f (.ref cda) cc A outer s H (fun _ _ => False)) [] [some (.ref a), some (.int n), some (.int c)] H { s with heap := h₀, toks := s.toks + (n_SyntaxProblem_init.zip us).length } :=
    inv_I (vs := [.ref a, .int n, .int c]) (by decide +kernel) (by decide +kernel) (by decide +kernel) (fun x k hx hk => hfr _ (PySem.mem_of_lookup hx) hk) hcell hr.hd e0 rfl r hns hk0
  obtain ⟨nm, q, N, bs, bm, sn, sub, ab, col, dd, k0, k1, k2, k3, k5, hC, hbm⟩ := T.oex.cls
  obtain ⟨t1, ho⟩ := exo_at I.hok ha
  obtain ⟨tn, tc, rfl⟩ : ∃ tn tc, us = [Value.ref a, Value.int n tn, Value.int c tc] := by
    cases r with
    | cons r1 r =>
      cases r with
      | cons r2 r =>
        cases r with
        | cons r3 r =>
          cases r
          obtain ⟨tn, rfl⟩ := r2
          obtain ⟨tc, rfl⟩ := r3
          exact ⟨tn, tc, by rw [show _ = Value.ref a from r1]⟩
  have hD : h₀.get? C = some (excClassObj nm q C N bs bm true sn sub ab col dd k0 k1 k2 k3 k5 "ValueError.__new__") := hk0 _ _ (KX _ _ hC)
  -- super().__init__(..)
  refine PySem.ks_wpAt_execs_cons (PySem.ks_wpAt_Expr_any (PySem.ks_wpAt_MethodCall ?_) (by rfl) (by rfl))
  refine PySem.ks_wpAt_super_base (by rfl) (by rfl) (by rfl) (by rfl) (hk0 _ _ (KX _ _ lk)) rfl (by rfl) (by rfl) (hk0 _ _ (KX _ _ hco)) rfl hvs hfile T.top ?_
  obtain ⟨mb, b1, b2⟩ := I.mod.blt
  refine PySem.W.ks_loadName_global (by rfl) (by rfl) (Calls.loadGlobal_builtin (I.mod.glob.keeps I.bk) T.noS (b1.keeps I.bk) ((b2 _ (by decide +kernel)).trans (by decide +kernel)) ⟨rfl, ?_⟩)
  refine wpAny_loadName_free (by rfl) (by rfl) rfl ⟨_, hk0 _ _ (KX _ _ hcell), rfl⟩ ?_
  refine wpAny_loadName_local (by rfl) (by rfl) hns (by rfl) ?_
  refine PySem.ks_wpAny_isType_cls hD rfl ⟨rfl, ?_⟩
  refine PySem.ks_wpAny_call_super hD rfl ho rfl (fun c' z => by cases z) (PySem.W.looks_mroIn (KX.keeps hk0) T.isC) (fun h1 hso hk1 => ?_)
  have X1 : K.In h1 := (KX.keeps hk0).keeps hk1
  have ho1 : h1.get? a = some ({ cls := .ref C, dict := none, data := .fields #[.ref t1, .none, .none, .none, .bool false, .none] } : Obj) := hk1 _ _ ho
  have IA : PySem.W.InstAt h1 a { cls := .ref C, dict := none, data := .fields #[.ref t1, .none, .none, .none, .bool false, .none] } C none := ⟨ho1, rfl, rfl, trivial⟩
  have hI : PySem.W.Looks (model P w) h1 (isInstance (.ref a) (.type "ValueError")) true := IA.type.andThen (PySem.W.looks_subIn X1 T.isV)
  have hup := T.up
  cases hcl : PySem.W.clsIn K C with
  | none => unfold PySem.W.ks_superIn at hup; rw [hcl] at hup; cases hup
  | some cdC =>
    unfold PySem.W.ks_superIn at hup
    rw [hcl] at hup
    refine PySem.W.kxs_getMethod PySem.W.kxs_ValueError hso (PySem.W.looks_opaque X1 T.opq) (l₀ := cdC.mro) (fun A Q E s k q => wpAny_bind ((PySem.W.looks_clsIn X1 hcl) A _ E s k (wpAny_pure q))) rfl X1 hup hI (PySem.W.ks_ne X1 IA hcl) (by rfl) ?_
    have hk2 : ∀ b o, h₀.get? b = some o → (h1.push (PySem.W.kxs_mw "ValueError.__init__" a)).get? b = some o := fun b o e => Heap.get?_push_of_some _ (hk1 b o e)
    have I1 := I.kept (t' := s.toks + (n_SyntaxProblem_init.zip [Value.ref a, Value.int n tn, Value.int c tc]).length + 1) hk2
    have hmw : (h1.push (PySem.W.kxs_mw "ValueError.__init__" a)).get? h1.objs.size = some (PySem.W.kxs_mw "ValueError.__init__" a) := Heap.get?_push_at rfl rfl
    have hlt : h₀.objs.size < h1.objs.size := Heap.lt_size hso
    have hlt2 : h₀.objs.size ≤ h1.objs.size := Nat.le_of_lt hlt
    have I2 : Inv (cxI P w K mg base n_SyntaxProblem_init "SyntaxProblem.__init__" (defScope s_SyntaxProblem_init) f (.ref cda) cc A outer s H (fun _ _ => False)) [(h1.objs.size, PySem.W.kxs_mw "ValueError.__init__" a)] [some (.ref a), some (.int n), some (.int c)] H { s with heap := h1.push (PySem.W.kxs_mw "ValueError.__init__" a), toks := s.toks + (n_SyntaxProblem_init.zip [Value.ref a, Value.int n tn, Value.int c tc]).length + 1 } := by
      refine I1.pins_of fun p hp => ?_
      have e : p = (h1.objs.size, PySem.W.kxs_mw "ValueError.__init__" a) := by simpa using hp
      subst e
      exact ⟨hmw, I.hok.fresh hlt2, fun z => absurd (I.lt) (by rw [← z]; exact Nat.not_lt_of_le hlt2), I.nofs hlt2, fun v z => by cases z⟩
    refine thnF (callWith_sup (X := cxI P w K mg base n_SyntaxProblem_init "SyntaxProblem.__init__" (defScope s_SyntaxProblem_init) f (.ref cda) cc A outer s H (fun _ _ => False)) T.oex I2
      ⟨_, pa_cons (pe_joined (PJ.cons pe_str (PJ.cons (pe_fmt (pv 1)) (PJ.cons pe_str (PJ.cons (pe_fmt (pv 2)) PJ.nil))))) pa_nil, ?_⟩ (by rfl) (by rfl)) fun _ _ z => z
    have l1 := itl hn
    have l2 := itl hc
    have l3 : (Str.empty ++ Str.ofString "line ").length = 5 := by decide +kernel
    have l4 : (Str.ofString ", column ").length = 9 := by decide +kernel
    refine ⟨_, rfl, (by rw [l3, sizeLine_eq]; omega), _, rfl, Or.inr ⟨n, rfl, Nat.lt_trans hn (by decide), _, rfl, (by rw [strLen_append, l3, sizeLine_eq]; omega), _, rfl, (by rw [strLen_append, strLen_append, l3, l4, sizeLine_eq]; omega),
      _, rfl, Or.inr ⟨c, rfl, Nat.lt_trans hc (by decide), _, rfl, (by rw [strLen_append, strLen_append, strLen_append, l3, l4, sizeLine_eq]; omega), (by show 1 ≤ 1000; decide), ha, fun s3 J => ?_⟩⟩⟩
    -- self.line = line; self.column = column
    refine wpAt_of_wpAny ?_
    have hps : ∃ t, PSs (cxI P w K mg base n_SyntaxProblem_init "SyntaxProblem.__init__" (defScope s_SyntaxProblem_init) f (.ref cda) cc A outer s H (fun _ _ => False)) ((defBody s_SyntaxProblem_init).drop 1) t ∧ t { nx := fun _ H' => Q .non H', rt := fun _ _ => False } [some (.ref a), some (.int n), some (.int c)] H := by
      refine ⟨_, pss_cons (ps_ost (pv 0) (pv 1)) (pss_one (ps_ost (pv 0) (pv 2))), ?_⟩
      refine ⟨_, rfl, _, rfl, a, C, rfl, T.oex, T.nL, Or.inl ⟨ha, fun dx hdx hne => ?_⟩⟩
      refine ⟨_, rfl, _, rfl, a, C, rfl, T.oex, T.nC, Or.inr ⟨dx, [("line", .int n)], upd_same, (by rw [upd_ne hne, upd_same]), (by show 1 ≤ 900; decide), ?_⟩⟩
      exact hq dx _ hdx hne (by rw [upd_ne (Ne.symm hne), upd_same]) upd_same fun b h1 h2 => by rw [upd_ne h2, upd_ne h1, upd_ne h2]
    obtain ⟨t2, hp2, hq2⟩ := hps
    refine thnF (hp2.run [] s3 _ _ _ J hq2) fun fl s' hs => ?_
    cases fl with
    | next =>
      obtain ⟨σ', H', J', q'⟩ := hs
      exact ⟨.non, H', J'.os, J'.bare, J'.base, J'.hok, rfl, q'⟩
    | ret u =>
      obtain ⟨v, σ', H', J', rv, q'⟩ := hs
      exact q'.elim
    | brk =>
      obtain ⟨_, _, _, q'⟩ := hs
      exact q'.elim
    | cont =>
      obtain ⟨_, _, _, q'⟩ := hs
      exact q'.elim
end
end T65
end
section
/-! XC: try .. except X as n, the error kept behind the suite as a tracked thing; its fields, isinstance of it. -/
namespace T65
open PySem PySem.Spec PyProof.Rows L2

/-- a caught exception at a, of the class cls, its dict d -/
def cau (cls : Value) (d : Option Addr) (a : Addr) : HO := .ext fun h => ∃ (oe : Obj) (vs : Array Value), h.get? a = some oe ∧ Zc cls d oe ∧ oe.data = .fields vs
theorem cau_ok {P : Program} {w : World} {H : Hp} {h : Heap} {a : Addr} {cls : Value} {d : Option Addr} {oe : Obj} {vs : Array Value} (e : h.get? a = some oe) (z : Zc cls d oe) (hd : oe.data = .fields vs) : ObjOk P w H h a (cau cls d a) :=
  ⟨⟨oe, vs, e, z, hd⟩, ⟨_, e⟩, fun h1 h2 q k => by
    obtain ⟨o, v, e1, z1, d1⟩ := q
    exact ⟨o, v, k _ e1, z1, d1⟩⟩
theorem cau_at {P : Program} {w : World} {H : Hp} {h : Heap} {a : Addr} {cls : Value} {d : Option Addr} (ok : HOk P w H h) (e : H a = some (cau cls d a)) : ∃ (oe : Obj) (vs : Array Value), h.get? a = some oe ∧ Zc cls d oe ∧ oe.data = .fields vs := by
  have x : ObjOk P w H h a (.ext fun h => ∃ (oe : Obj) (vs : Array Value), h.get? a = some oe ∧ Zc cls d oe ∧ oe.data = .fields vs) := ok a _ e
  exact x.1

section
variable {X : Cx} {pins : List (Addr × Obj)} {σ : L2.St} {H : Hp} {s : Shared}
/-- an object that came behind the entry is tracked from now on -/
theorem track {a : Addr} {o : HO} {ob : Obj} (I : Inv X pins σ H s) (na : H a = none) (ha : s.heap.get? a = some ob) (hc : ∀ v, ob.data ≠ .cell v) (h0 : X.s_0.heap.get? a = none) (nL : a ≠ X.env.locals) (np : ∀ p ∈ X.pn ++ pins, p.1 ≠ a)
    (new : ObjOk X.prog X.w (upd H a o) s.heap a o) : Inv X pins σ (upd H a o) s := by
  have ne : ∀ {b : Addr} {u : HO}, H b = some u → b ≠ a := fun {b u} q => ne_of_none q na
  refine ⟨I.ok, I.os, I.bare, ⟨I.base.keep, I.base.slot, fun b o' e n hx => ?_, I.base.there, fun b xs q => ?_, fun b o' u q => ?_, fun b ps q => ?_⟩, I.loc, I.cell, ?_, fun x c e => ?_, fun p hp => ?_, fun b u q => ?_, I.len⟩
  · have hb : b ≠ a := fun z => by
      rw [z, h0] at e
      cases e
    rw [upd_ne hb]
    exact I.base.free b o' e n hx
  · have q1 := I.base.tups b xs q
    rw [upd_ne (ne q1)]
    exact q1
  · have q1 := I.base.frzs b o' u q
    rw [upd_ne (ne q1)]
    exact q1
  · obtain ⟨more, q1⟩ := I.base.tbls b ps q
    exact ⟨more, by rw [upd_ne (ne q1)]; exact q1⟩
  · rw [upd_ne (Ne.symm nL)]
    exact I.free
  · have hb : c ≠ a := fun z => by
      obtain ⟨v, oc, hoc, hv⟩ := I.cell x c e
      rw [z, ha] at hoc
      cases hoc
      exact hc _ hv
    rw [upd_ne hb]
    exact I.freeC x c e
  · obtain ⟨p1, p2, p3⟩ := I.pin p hp
    exact ⟨p1, by rw [upd_ne (np p hp)]; exact p2, p3⟩
  · by_cases hb : b = a
    · subst hb
      rw [upd_same] at q
      cases q
      exact new
    · rw [upd_ne hb] at q
      exact (I.hok b u q).stay (fun _ _ _ z => z) (fun c z => by rw [upd_ne (ne z)]; exact z) fun c xs z => by rw [upd_ne (ne z)]; exact z
/-- the suite's state, the error tracked, no pin of it -/
theorem toSuite (I : Inv X pins σ H s) (a : Addr) : Inv (X.suite a (X.pn ++ pins)) [] σ H s :=
  ⟨I.ok.suite _ _, I.os, I.bare, I.base, I.loc, I.cell, I.free, I.freeC, fun p hp => I.pin p (by rw [List.append_nil] at hp; exact hp), I.hok, I.len⟩
theorem ofSuite {a : Addr} {pn' : List (Addr × Obj)} (I : Inv (X.suite a (X.pn ++ pins)) pn' σ H s) (ok : X.Ok) : Inv X pins σ H s :=
  ⟨ok, I.os, I.bare, I.base, I.loc, I.cell, I.free, I.freeC, fun p hp => I.pin p (List.mem_append_left _ hp), I.hok, I.len⟩
end

/-- what the clause wishes: the error stands tracked at a -/
def wCau (K : PySem.W.Frag) (c : Value) (i : Nat) (ts : TS) (Wout : WX) (D : Ends) : WX := fun cls d σ H =>
  ∃ b, PySem.W.exmOne K cls c = some b ∧ (b = true → ∀ a, H a = none → ts { nx := fun σ' H' => D.nx (σ'.set i none) H', rt := D.rt, bk := fun σ' H' => D.bk (σ'.set i none) H', ct := fun σ' H' => D.ct (σ'.set i none) H' } (σ.set i (some (.ref a))) (upd H a (cau cls d a))) ∧
    (b = false → Wout cls d σ H)

section
variable {X : Cx} {x n : Str} {c : Value} {i : Nat} {body suite : List Stmt} {b₀ : Stmt} {np pos pos' : Pos} {tb : WX → TS} {ts : TS} {Wout : WX}
theorem ps_try_cau (hs : X.stack = X.env :: X.outer) (hf : X.env.frame = some X.env.locals) (hex : X.ex = []) (hN : X.N.Nodup) (hi : X.N[i]? = some n) (hln : X.env.kindOf n = some .local) (hc : Names X x c) (tk : Takes X Wout)
    (hb : ∀ (W : WX) (pn : List (Addr × Obj)) (xe : Value → Shared → Prop), Takes (X.tr pn xe) W → PassesOwn (model X.prog X.w) X.A X.env xe → PSs (X.tr pn xe) body (tb W))
    (hsu : ∀ (a : Addr) (pn : List (Addr × Obj)), PSs (X.suite a pn) (b₀ :: suite) ts) :
    PS X (.Try body [.ExceptHandler (some (.Name x np)) (some n) (b₀ :: suite) pos'] [] [] pos) (fun D σ H => tb (wCau X.K c i ts Wout D) D σ H) := by
  refine ⟨fun pins s σ H D I h => ?_⟩
  have ok := I.ok
  have frames : X.A.frames = some (X.env :: X.outer) := by
    rw [ok.frames, hs]
  have isLoc : Loc X.env.scope n := Or.inl hln
  refine wpAny_Try_except ?_
  have run := (hb (wCau X.K c i ts Wout D) (X.pn ++ pins)
    (fun e s₁ => wpAny (model X.prog X.w) X.A (noteFrame e X.env) (fun _ s₂ => wpAny (model X.prog X.w) X.A (setFlight e none) (fun _ s₃ =>
      wpAny (model X.prog X.w) X.A (handleBy e X.env [.ExceptHandler (some (.Name x np)) (some n) (b₀ :: suite) pos']) (SP X pins D) X.xe s₃) X.xe s₂) X.xe s₁)
    (fun u s' xx => ?caught) PassesOwn.looking).run [] s σ H D (I.toTry _) h
  case caught =>
    obtain ⟨a, B, sI, pins', σ', H', cls, d, rfl, Jt, nb, up, sky, na, os, ag, b, hb1, hyes, hno⟩ := xx
    have J : Inv X pins σ' H' sI := Jt.ofTry ok
    have skyX : Sky B (X.env :: X.outer) a (Zc cls d) X.env.locals s'.heap := by
      rw [← hs]
      exact sky
    show wpAny (model X.prog X.w) X.A (noteFrame (.ref a) X.env) _ _ _
    refine Sky.land Zc.steady frames hf skyX fun h3 fl3 up3 => ?_
    have J3 : Inv X pins σ' H' { s' with heap := h3 } := J.landed nb fl3.1 (up.trans up3) os ag
    obtain ⟨oe3, vs3, he3, hz3, hd3⟩ := fl3.there
    have notFrame : a ∉ frs (X.env :: X.outer) := fun hm => by
      obtain ⟨_, o', e', hnf⟩ := fl3.2.2.1.mem hm
      rw [he3] at e'
      cases e'
      exact hnf _ hd3
    have nL : a ≠ X.env.locals := fun z => notFrame (List.mem_filterMap.mpr ⟨X.env, List.mem_cons_self, by rw [hf, z]⟩)
    have nF : a ∉ X.fs := fun hm => by
      obtain ⟨e, he, q⟩ := List.mem_filterMap.mp hm
      exact notFrame (List.mem_filterMap.mpr ⟨e, List.mem_cons_of_mem _ he, q⟩)
    have newI : sI.heap.get? a = none := by
      cases z : sI.heap.get? a with
      | none => rfl
      | some o =>
        have y := nb a o z (by rw [hs]; exact notFrame)
        rw [fl3.2.1] at y
        cases y
    have new0 : X.s_0.heap.get? a = none := by
      cases z : X.s_0.heap.get? a with
      | none => rfl
      | some o =>
        obtain ⟨o', y⟩ := J.base.there a o z (by rw [hex]; simp)
        rw [newI] at y
        cases y
    have noPin : ∀ p ∈ X.pn ++ pins, p.1 ≠ a := fun p hp z => by
      have y := (J.pin p hp).1
      rw [z, newI] at y
      cases y
    have S3 := J3.suite he3 hd3 na nL nF
    refine wpAny_handleBy_cons (codeAny_handlers_test ?_) (by intro q; cases q)
    have LT : PySem.W.Looks (model X.prog X.w) h3 (typeOf (.ref a)) cls := fun A Q E s k q => wpAny_typeOf_ref (k _ _ he3) (by rw [hz3.1]; exact q)
    have LM := PySem.W.exm_one (M := model X.prog X.w) J3.kIn LT hb1
    have test : ∀ {Q : Value → Shared → Prop} {E : Value → Shared → Prop}, Q c { s' with heap := h3 } →
        wpAny (model X.prog X.w) (X.A.mark (some (.ref a))) (eval (.Name x np) X.env) Q E { s' with heap := h3 } := fun {Q E} q => by
      obtain ⟨hg, hdbg, hm | ⟨hm, hv, hnn⟩⟩ := hc
      · exact ld_glob (X := X.suite a ((a, oe3) :: (X.pn ++ pins))) S3 hg hm q hdbg
      · exact ld_blt (X := X.suite a ((a, oe3) :: (X.pn ++ pins))) S3 hg hm hv q hnn hdbg
    refine test (LM.here ?_)
    cases b with
    | true =>
      refine codeAny_handlers_suite_as ?_
      refine HandSPX.lands_againZ fl3 fun h4 fl4 up4 => ?_
      have J4 : Inv X pins σ' H' { s' with heap := h4 } := J.landed nb fl4.1 ((up.trans up3).trans up4) os ag
      obtain ⟨oe4, vs4, he4, hz4, hd4⟩ := fl4.there
      have J5 : Inv X pins σ' (upd H' a (cau cls d a)) { s' with heap := h4 } := track J4 na he4 (fun v z => by rw [hd4] at z; cases z) new0 nL noPin (cau_ok he4 hz4 hd4)
      refine store_ok (X := X.suite a (X.pn ++ pins)) (v := .ref a) (toSuite J5 a) hN hi isLoc rfl (fun s5 S5 => ?_) (.inr hln)
      refine wpAny_mono ((hsu a (X.pn ++ pins)).run [] s5 _ _ _ S5 (hyes rfl a na)) (fun f s6 hsp => ?_) (fun _ _ z => False.elim z)
      have fin : ∀ {σ6 : L2.St} {H6 : Hp} {Q : Shared → Prop}, Inv (X.suite a (X.pn ++ pins)) [] σ6 H6 s6 → (∀ s7, Inv X pins (σ6.set i none) H6 s7 → Q s7) →
          wpAny (model X.prog X.w) X.A (do bindName X.env n .none; unbindBehindTheSuite X.env n pos') (fun _ s7 => Q s7) X.xe s6 := fun {σ6 H6 Q} S6 hq => gone_ok (ofSuite S6 ok) hN hi hln hq
      cases f with
      | ret u =>
        obtain ⟨v6, σ6, H6, S6, r6, q6⟩ := hsp
        exact fin S6 fun s7 J7 => ⟨_, _, _, J7, r6, q6⟩
      | next =>
        obtain ⟨σ6, H6, S6, q6⟩ := hsp
        exact fin S6 fun s7 J7 => ⟨_, _, J7, q6⟩
      | brk =>
        obtain ⟨σ6, H6, S6, q6⟩ := hsp
        exact fin S6 fun s7 J7 => ⟨_, _, J7, q6⟩
      | cont =>
        obtain ⟨σ6, H6, S6, q6⟩ := hsp
        exact fin S6 fun s7 J7 => ⟨_, _, J7, q6⟩
    | false =>
      show wpAny _ X.A (handleBy (.ref a) X.env []) _ _ _
      refine wpAny_handleBy_nil ?_
      obtain ⟨k1, k2, k3, oe, vs, T, oT, ts', he, hz, hd, h1, hr⟩ := id fl3
      unfold PySem.passOn
      refine wpAny_bind (wpAny_field he hd h1 ?_)
      rw [if_neg (show ¬ ((Value.ref T == Value.none) = true) from by simp)]
      have gone : wpAny (model X.prog X.w) X.A (setFlight (.ref a) X.env.frame) (fun _ s4 => wpAny (model X.prog X.w) X.A (throw (.ref a) : Sem Flow) (SP X pins D) X.xe s4) X.xe { s' with heap := h3 } := by
        rw [hf]
        refine HandSPX.setFlight_upZ fl3 fun h4 hh4 up4 => wpAny_throw (tk _ _ ?_)
        exact ⟨a, B, sI, pins, σ', H', cls, d, rfl, J, nb, (up.trans up3).trans up4, .inr (.inr (by rw [hs]; exact hh4)), na, os, ag, hno rfl⟩
      first
        | exact wpAny_bind (wpAny_pure (wpAny_bind gone))
        | exact wpAny_bind gone
  refine wpAny_mono run (fun f s1 hsp => ?_) (fun e s1 he => he)
  cases f with
  | ret u =>
    obtain ⟨v, σ', H', J, r, q⟩ := hsp
    exact ⟨v, σ', H', J.ofTry ok, r, q⟩
  | next =>
    obtain ⟨σ', H', J, q⟩ := hsp
    exact wpAny_execs_nil ⟨σ', H', J.ofTry ok, q⟩
  | brk =>
    obtain ⟨σ', H', J, q⟩ := hsp
    exact ⟨σ', H', J.ofTry ok, q⟩
  | cont =>
    obtain ⟨σ', H', J, q⟩ := hsp
    exact ⟨σ', H', J.ofTry ok, q⟩
end

/-! ### the kept error: a field, isinstance -/
def tXfC (K : PySem.W.Frag) (f : Str) (te : TE) : TE := fun σ H Q => te σ H fun x H1 => ∃ (a C d : Addr) (fs : List (Str × V)) (v : V), x = .ref a ∧ XfC K C ∧ PySem.W.findIn K (.ref C) f = some none ∧ H1 a = some (cau (.ref C) (some d) a) ∧ H1 d = some (.xd fs) ∧ fs.lookup f = some v ∧ Q v H1
theorem cau_inst {X : Cx} {pins : List (Addr × Obj)} {σ : L2.St} {H : Hp} {s : Shared} {a C d : Addr} {fs : List (Str × V)} (I : Inv X pins σ H s) (ha : H a = some (cau (.ref C) (some d) a)) (hd : H d = some (.xd fs)) :
    ∃ (oe od : Obj), PySem.W.InstAt s.heap a oe C (some od) ∧ ∃ mA : Str → Option Value, (∀ n, PySem.W.lookIn n od = some (mA n)) ∧ ∀ f, RelO (fs.lookup f) (mA f) := by
  obtain ⟨oe, vs, he, hz, hf⟩ := cau_at I.hok ha
  have hx : ObjOk X.prog X.w H s.heap d (.xd fs) := I.hok d _ hd
  obtain ⟨mA, hns, hr⟩ := hx
  obtain ⟨od, ho, hl⟩ := lookIn_ns hns
  exact ⟨oe, od, ⟨he, hz.1, by unfold PySem.W.notCls; rw [hf] <;> rfl, by rw [hz.2]; exact ho⟩, mA, hl, hr⟩
theorem pe_xfC {X : Cx} {e : Expr} {te : TE} {pos : Pos} {n : Str} (he : PE X e te) (hb : attributeBase e n X.env (eval e X.env) = eval e X.env := by rfl) : PE X (.Attribute e n pos) (tXfC X.K n te) := by
  refine ⟨fun pins s σ H Q I h => ?_⟩
  refine attr_of hb (thn (he.run pins s σ H _ I h) fun u s1 hh => ?_)
  obtain ⟨x, H1, I1, rx, a, C, d, fs, v, rfl, T, hno, ha, hd, l, q⟩ := hh
  obtain rfl : u = Value.ref a := rx
  obtain ⟨oe, od, J, mA, hl, hr⟩ := cau_inst I1 ha hd
  obtain ⟨u, hu, ru⟩ := RelO.some_of (v := v) (o := mA n) (by rw [← l]; exact hr n)
  exact HandSPX.exc_get I1.kIn J T.ga T.gg T.exC (PySem.W.findObj_own T.hdC hno rfl (by rw [hl, hu])) (handed_of ru) ⟨v, H1, I1.tok _, ru, q⟩

/-- what isinstance asks of the class -/
structure IsC (K : PySem.W.Frag) (C : Addr) : Prop where
  cl : (PySem.W.clsIn K C).isSome = true
  hg : PySem.W.findIn K (.ref C) "__getattribute__" = some (some (.builtin "BaseException.__getattribute__"))
  hk : PySem.W.findIn K (.ref C) "__getattr__" = some none
  hs : PySem.W.subIn K (.ref C) (.type "BaseException") = some true
  ha : PySem.W.findIn K (.ref C) "__class__" = some (some (.builtin "object.__class__"))
  hn : PySem.W.specialIn K (.builtin "object.__class__") "__get__" = some (some (.builtin "getset_descriptor.__get__"))
  ht : PySem.W.takesIn K (.builtin "object.__class__") = some true
  hm : PySem.W.mroIn K C (.type "object") = some true
  ko : PySem.W.kitOne K (.ref C) (.ref C) = some true
theorem call_isC {X : Cx} {C : Addr} (T : IsC X.K C) : CallR X (.builtin "isinstance") (fun xs H Q => ∃ (a d : Addr) (fs : List (Str × V)), xs = [.ref a, .ref C] ∧ H a = some (cau (.ref C) (some d) a) ∧ H d = some (.xd fs) ∧ Q (.bl true) H) := by
  intro pins s σ H xs us Q I r h
  obtain ⟨a, d, fs, rfl, ha, hd, q⟩ := h
  cases r with
  | cons rx rr =>
    cases rr with
    | cons rt rr =>
      cases rr
      cases rx
      cases rt
      obtain ⟨oe, od, J, mA, hl, hr⟩ := cau_inst I ha hd
      exact PySem.W.kia_one (PySem.W.kitx_exc T.cl T.hg T.hk T.hs T.ha T.hn T.ht T.hm) I.kIn J T.ko (fun z => nomatch z) fun tk => ⟨.bl true, H, I.kept (t' := tk) fun _ _ z => z, rfl, q⟩
end T65
end
section
/-! XD: data of tuples and texts and ints (a dict of these at the outside), repr of it; calls where no guard runs. -/
namespace T65
open PySem PySem.Spec PyProof.Rows L2

/-! ### data -/
mutual
/-- v bears the data d: None, bools, ints, texts, tuples of these -/
inductive TD (H : Hp) : V → PyData → Prop
  | non : TD H .non .none
  | bl (b : Bool) : TD H (.bl b) (.bool b)
  | int (i : Int) : TD H (.int i) (.int i)
  | str (x : Str) : TD H (.str x) (.str x)
  | tup {a : Addr} {xs : List V} {ds : List PyData} : H a = some (.tup xs) → TDs H xs ds → TD H (.ref a) (.tuple ds)
inductive TDs (H : Hp) : List V → List PyData → Prop
  | nil : TDs H [] []
  | cons {v : V} {vs : List V} {d : PyData} {ds : List PyData} : TD H v d → TDs H vs ds → TDs H (v :: vs) (d :: ds)
end
/-- tuples stand as they stood -/
def Tu (H H' : Hp) : Prop := ∀ b xs, H b = some (.tup xs) → H' b = some (.tup xs)
mutual
theorem TD.tu {H H' : Hp} (t : Tu H H') : ∀ {v : V} {d : PyData}, TD H v d → TD H' v d
  | _, _, .non => .non
  | _, _, .bl b => .bl b
  | _, _, .int i => .int i
  | _, _, .str x => .str x
  | _, _, .tup h r => .tup (t _ _ h) (TDs.tu t r)
theorem TDs.tu {H H' : Hp} (t : Tu H H') : ∀ {vs : List V} {ds : List PyData}, TDs H vs ds → TDs H' vs ds
  | _, _, .nil => .nil
  | _, _, .cons a r => .cons (TD.tu t a) (TDs.tu t r)
end
theorem Tu.refl (H : Hp) : Tu H H := fun _ _ e => e
theorem Tu.trans {H H1 H2 : Hp} (a : Tu H H1) (b : Tu H1 H2) : Tu H H2 := fun x xs e => b x xs (a x xs e)
theorem TDs.len {H : Hp} : ∀ {vs : List V} {ds : List PyData}, TDs H vs ds → vs.length = ds.length
  | _, _, .nil => rfl
  | _, _, .cons _ r => congrArg (· + 1) r.len
theorem TDs.app {H : Hp} : ∀ {vs ws : List V} {ds es : List PyData}, TDs H vs ds → TDs H ws es → TDs H (vs ++ ws) (ds ++ es)
  | _, _, _, _, .nil, s => s
  | _, _, _, _, .cons a r, s => .cons a (r.app s)
theorem TDs.one {H : Hp} {v : V} {d : PyData} (h : TD H v d) : TDs H [v] [d] := .cons h .nil
theorem TDs.at_ {H : Hp} : ∀ {vs : List V} {ds : List PyData} {i : Nat} {v : V}, TDs H vs ds → vs[i]? = some v → ∃ d, ds[i]? = some d ∧ TD H v d
  | _, _, _, _, .nil, e => by simp at e
  | _, _, 0, _, .cons a r, e => by
    simp at e
    subst e
    exact ⟨_, rfl, a⟩
  | _, _, i + 1, v, .cons a r, e => by
    obtain ⟨d, h1, h2⟩ := r.at_ (i := i) (v := v) (by simpa using e)
    exact ⟨d, by simpa using h1, h2⟩
theorem TDs.at2 {H : Hp} : ∀ {vs : List V} {ds : List PyData} {i : Nat} {d : PyData}, TDs H vs ds → ds[i]? = some d → ∃ v, vs[i]? = some v ∧ TD H v d
  | _, _, _, _, .nil, e => by simp at e
  | _, _, 0, _, .cons a r, e => by
    simp at e
    subst e
    exact ⟨_, rfl, a⟩
  | _, _, i + 1, d, .cons a r, e => by
    obtain ⟨v, h1, h2⟩ := r.at2 (i := i) (d := d) (by simpa using e)
    exact ⟨v, by simpa using h1, h2⟩
/-- the entries of a dict with text keys -/
inductive KD (H : Hp) : List (Key × V) → List (Str × PyData) → Prop
  | nil : KD H [] []
  | cons {n : Str} {v : V} {d : PyData} {kvs : List (Key × V)} {nds : List (Str × PyData)} : TD H v d → KD H kvs nds → KD H ((.inr n, v) :: kvs) ((n, d) :: nds)
theorem KD.tu {H H' : Hp} (t : Tu H H') {kvs : List (Key × V)} {nds : List (Str × PyData)} (h : KD H kvs nds) : KD H' kvs nds := by
  induction h with
  | nil => exact .nil
  | cons a _ ih => exact .cons (a.tu t) ih
theorem KD.len {H : Hp} {kvs : List (Key × V)} {nds : List (Str × PyData)} (h : KD H kvs nds) : kvs.length = nds.length := by
  induction h with
  | nil => rfl
  | cons _ _ ih => exact congrArg (· + 1) ih
theorem KD.app {H : Hp} {kvs lvs : List (Key × V)} {nds mds : List (Str × PyData)} (h : KD H kvs nds) (h' : KD H lvs mds) : KD H (kvs ++ lvs) (nds ++ mds) := by
  induction h with
  | nil => exact h'
  | cons a _ ih => exact .cons a ih
def dicOf (nds : List (Str × PyData)) : PyData := .dict (nds.map fun p => (PyData.str p.1, p.2))
/-- data, perhaps a dict of data -/
def DD (H : Hp) (v : V) (d : PyData) : Prop := TD H v d ∨ ∃ a kvs nds, v = .ref a ∧ H a = some (.dK kvs) ∧ KD H kvs nds ∧ d = dicOf nds
/-- tuples and dicts stand as they stood -/
def Td (H H' : Hp) : Prop := Tu H H' ∧ ∀ b kvs, H b = some (.dK kvs) → H' b = some (.dK kvs)
theorem DD.td {H H' : Hp} {v : V} {d : PyData} (h : DD H v d) (t : Td H H') : DD H' v d := by
  rcases h with h | ⟨a, kvs, nds, e, h1, h2, h3⟩
  · exact .inl (h.tu t.1)
  · exact .inr ⟨a, kvs, nds, e, t.2 _ _ h1, h2.tu t.1, h3⟩

section
variable {X : Cx} {pins : List (Addr × Obj)} {σ : L2.St} {H : Hp} {s : Shared}
mutual
theorem TD.reads (I : Inv X pins σ H s) : ∀ (d : PyData) (v : V) (u : Value), TD H v d → RelV v u → Reads s.heap u d []
  | .none, _, _, h, r => by
    cases h
    cases r
    exact Reads.none
  | .bool b, _, _, h, r => by
    cases h
    cases r
    exact Reads.bool b
  | .int i, _, _, h, r => by
    cases h
    obtain ⟨t, rfl⟩ := r
    exact Reads.int i t
  | .str x, _, _, h, r => by
    cases h
    obtain ⟨t, rfl⟩ := r
    exact Reads.str x t
  | .list ds, _, _, h, r => by cases h
  | .dict ds, _, _, h, r => by cases h
  | .tuple ds, _, _, h, r => by
    cases h with
    | tup hs ha =>
      cases r
      obtain ⟨its, rv, ⟨o, ho, hc, n, hd⟩, _⟩ := I.tuple (SqT.of (K := X.K) hs)
      exact Reads.tuple ho hc hd (TDs.reads I ds _ its ha rv)
theorem TDs.reads (I : Inv X pins σ H s) : ∀ (ds : List PyData) (vs : List V) (us : List Value), TDs H vs ds → Vals vs us → ReadsAll s.heap us ds []
  | [], _, _, h, r => by
    cases h
    cases r
    exact .nil
  | d :: ds, _, _, h, r => by
    cases h with
    | cons a b =>
      cases r with
      | cons r1 r2 => exact ReadsAll.cons (as := []) (bs := []) (TD.reads I d _ _ a r1) (TDs.reads I ds _ _ b r2)
end
theorem readsAll_app {h : Heap} {us : List Value} {ds : List PyData} (r : ReadsAll h us ds []) : ReadsAll h us ds [] := r
theorem KD.reads (I : Inv X pins σ H s) {P : Program} {w : World} : ∀ {kvs : List (Key × V)} {nds : List (Str × PyData)} {vs : List (Key × Value)} {es : List DictEntry}, KD H kvs nds → KV kvs vs → Pairs (mixKind P w) es vs →
    ReadsAll s.heap (es.map (·.key)) (nds.map fun p => PyData.str p.1) [] ∧ ReadsAll s.heap (es.map (·.val)) (nds.map fun p => p.2) []
  | _, _, _, _, .nil, r, p => by
    cases r
    cases p
    exact ⟨.nil, .nil⟩
  | _, _, _, _, .cons (n := n) a b, r, p => by
    cases r with
    | cons r1 r2 =>
      cases p with
      | cons p1 p2 p3 =>
        obtain ⟨q1, q2⟩ := KD.reads I b r2 p3
        obtain ⟨e1, e2⟩ := r1
        refine ⟨?_, ?_⟩
        · rw [← e1] at p1
          obtain ⟨t, ht⟩ := Value.isStrOf_shape (x := n) p1
          rw [List.map_cons, List.map_cons, ht]
          exact ReadsAll.cons (as := []) (bs := []) (Reads.str n t) q1
        · rw [List.map_cons, List.map_cons, p2]
          exact ReadsAll.cons (as := []) (bs := []) (TD.reads I _ _ _ a e2) q2
theorem DD.reads (I : Inv X pins σ H s) {v : V} {d : PyData} {u : Value} (h : DD H v d) (r : RelV v u) : ∃ as, Reads s.heap u d as ∧ (d.hasDict = true → sysModules ∉ as) := by
  rcases h with h | ⟨a, kvs, nds, rfl, h1, h2, rfl⟩
  · exact ⟨[], TD.reads I _ _ _ h r, fun _ => by simp⟩
  · obtain rfl : u = Value.ref a := r
    obtain ⟨hz, hs, vs, kv, o, es, ep, ho, hex, hd, hk, hp, hn⟩ := (I.hok a _ h1 : ObjOk X.prog X.w H s.heap a (.dK kvs))
    obtain ⟨q1, q2⟩ := KD.reads I h2 kv hp
    have q1' : ReadsAll s.heap (es.toList.map (·.key)) ((nds.map fun p => (PyData.str p.1, p.2)).map (·.1)) [] := by
      rw [List.map_map]
      exact q1
    have q2' : ReadsAll s.heap (es.toList.map (·.val)) ((nds.map fun p => (PyData.str p.1, p.2)).map (·.2)) [] := by
      rw [List.map_map]
      exact q2
    refine ⟨a :: [] ++ [], Reads.dict ho hex.1 hd q1' q2', fun _ z => ?_⟩
    · have e : sysModules = a := by simpa using z
      rw [e] at hs
      simp at hs
/-- repr(x), no guard running -/
def rRepr : List V → Hp → VK → Prop := fun xs H Q => ∃ v d, xs = [v] ∧ DD H v d ∧ (∃ a, v = .ref a) ∧ d.showable = true ∧ d.depth ≤ 60 ∧ d.shown.length ≤ sizeLine ∧ Q (.str d.shown) H
theorem call_reprD (hg : X.A.guards = some []) (hu : X.A.units + 64 < cLine) : CallR X (.builtin "repr") rRepr := by
  intro pins s σ H xs us Q I r h
  obtain ⟨v, d, rfl, hd, ⟨a, rfl⟩, hs, hdp, hz, q⟩ := h
  obtain ⟨u, rfl, ru⟩ := vals1 r
  obtain rfl : u = Value.ref a := ru
  obtain ⟨as, hr, hsm⟩ := DD.reads I hd (v := .ref a) rfl
  exact repr_of_reads' hr hs hsm hg (by omega) (fun _ _ e => e) (fun h' u tk k => ⟨.str d.shown, H, I.kept (t' := tk) k, ⟨u, rfl⟩, q⟩) hz
end
end T65
end
section
/-! XE: a def's promise where no repr is under way (the guards are told), its call, the law's end over it. -/
namespace T65
open PySem PySem.Spec PyProof.Rows L2

structure FnOkG (P : Program) (w : World) (K : PySem.W.Frag) (mg : Str → Option Value) (base : Heap) (CX : CXT) (k : Nat) (f : Addr) (fd : FuncData) (ps : List Str) (sp : Sp) : Prop where
  len : ∀ vs H Q E, sp vs H Q E → vs.length = ps.length
  run : ∀ (A : Around) (outer : List Env) (s : Shared) (H : Hp) (args : Args) (us : List Value) (vs : List V) (Q : VK) (E : XK), A.guards = some [] → Room k A → Env0 P w K mg base A outer s H →
    BindsTo s fd args (ps.zip us) → Vals vs us → sp vs H Q E → codeAny (model P w) A (.call (.ref f) args) (CR CX outer P w H s Q E) s

section
variable {P : Program} {w : World} {K : PySem.W.Frag} {mg : Str → Option Value} {base : Heap}
theorem okG {x qual : Str} {params : Arguments} {body : List Stmt} {scope : Scope} {dvs : List V} {kws : List (Str × V)} {f : Addr} {fd : FuncData} {CX : CXT} {N ps : List Str} {k : Nat} {sp : Sp}
    (F : FunD K x qual params body scope dvs kws f fd) (S : FnScope N ps scope) (len : ∀ vs H Q E, sp vs H Q E → vs.length = ps.length)
    (hbody : ∀ (cdv : Value) (A : Around) (outer : List Env) (s : Shared) (H : Hp) (vs : List V) (Q : VK) (E : XK), A.guards = some [] → Room k (A.deeper (envOfC qual scope s.heap.objs.size f cdv)) → sp vs H Q E →
      ∃ t, PSs (cxOf CX P w K mg base N qual scope f cdv A outer s H E) body t ∧ t { nx := fun _ H' => Q .non H', rt := Q } (start N vs) H) :
    FnOkG P w K mg base CX (k + 1) f fd ps sp := by
  obtain ⟨oc, od, dV, kV, doc, pm, an, cdv, ct, osl, rfl, lk, hcd, _, _⟩ := F.ex
  refine ⟨len, fun A outer s H args us vs Q E hg hr e0 hb r hsp => ?_⟩
  have hl := len _ _ _ _ hsp
  have stays : ∀ b o, base.get? b = some o → s.heap.get? b = some o := fun b o e => (e0.bs b o e).1
  have KX : K.In s.heap := e0.mod.kin.keeps stays
  have hkind : ∀ y ∈ ps.zip us, scope.names.lookup y.1 = some .local ∨ (scope.names.lookup y.1 = some .cell ∧ ((cellsFrom (s.heap.objs.size + 1) scope.names []).lookup y.1).isSome = true) := fun ⟨n, v⟩ hy =>
    (S.par n (List.of_mem_zip hy).1).elim .inl fun q => .inr ⟨q, PySem.W.cellsFrom_some _ _ _ (.inl q)⟩
  refine codeAny_call_function hr.depth (KX _ _ lk) rfl S.co S.gen rfl (PySem.W.codeRec_of KX hcd) (hb _ _ _ _ ?_)
  refine wpAny_newFunctionEnv_cells S.kind hkind fun env he s1 x => ?_
  subst he
  refine ⟨(e0.mod.nolimit.keeps stays).keeps x.toInCall.keep, codeAny_func ?_⟩
  obtain ⟨t, ht, hq⟩ := hbody cdv A outer s H vs Q E hg (hr.deeper _) hsp
  refine wpAny_mono (ht.run [] s1 (start N vs) H _ (inv_start S hr.hd e0 hl r x) hq) (fun fl s' hs => ?_) fun e s' hs => hs
  have back : ∀ {σ' : L2.St} {H' : Hp} {v : V} {u : Value}, Inv (cxOf CX P w K mg base N qual scope f cdv A outer s H E) [] σ' H' s' → RelV v u → Q v H' → CE outer P w H s Q u s' :=
    fun {σ' H' v u} J rv q => ⟨v, H', J.os, J.bare, J.base, J.hok, rv, q⟩
  cases fl with
  | next =>
    obtain ⟨σ', H', J, q⟩ := hs
    exact back (v := V.non) (u := Value.none) J rfl q
  | ret u =>
    obtain ⟨v, σ', H', J, rv, q⟩ := hs
    exact back J rv q
  | cont =>
    obtain ⟨_, _, _, q⟩ := hs
    exact q.elim
  | brk =>
    obtain ⟨_, _, _, q⟩ := hs
    exact q.elim
end

/-- f(e, ..) in a body where no guard runs -/
theorem pe_callG {X : Cx} {CX : CXT} {k : Nat} {f : Addr} {fd : FuncData} {ps : List Str} {sp : Sp} {E : XK} {x : Str} {p pos : Pos} {e : Expr} {es : List Expr} {t : TA}
    (F : FnOkG X.prog X.w X.K X.mg X.base CX k f fd ps sp) (hgd : X.A.guards = some []) (hr : Room k X.A) (hg : Gl X x) (hm : X.mg x = some (.ref f)) (hk : PySem.W.keepIn X.K (.ref f) = true) (hb : Binds X.K fd ps []) (hx : Passes CX X E)
    (ha : PA X (e :: es) t) (hdb : (x == ("__debug__" : Str)) = false := by decide) (he : starEach (e :: es) X.env = (false, eval e X.env) :: starEach es X.env := by rfl)
    (hpl : (backTo pos (starEach es X.env)).any (·.1) = false := by rfl) : PE X (.Call (.Name x p) (e :: es) [] pos) (tCall sp [] E t) := by
  refine ⟨fun pins s σ H Q I h => ?_⟩
  refine wpAny_Call_Name_kw (ld_glob I hg hm ?_ hdb)
  refine PySem.W.callWith_K (h₀ := X.base) I.ok.mod.kin hk (thn (ha.run pos pins s σ H _ I h) fun us s1 hh => ?_) he hpl
  obtain ⟨vs, H1, I1, r, q⟩ := hh
  refine ⟨I1.kIn, ?_⟩
  rw [List.append_nil] at q
  have hl : us.length = ps.length := by
    rw [← Vals.length r]
    exact F.len _ _ _ _ q
  have hbb := hb s1 us I1.kIn (by rw [List.append_nil]; exact hl)
  rw [List.append_nil] at hbb
  refine wpAny_call (codeAny_mono (F.run X.A X.stack s1 H1 ⟨us, []⟩ us vs Q E hgd hr I1.env0 hbb r q) fun r s' hq => ?_)
  cases r with
  | error e => exact hx pins σ H1 s1 e s' I1 hq
  | ok fl =>
    cases fl with
    | ret u => exact I1.after hq
    | next => exact hq.elim
    | brk => exact hq.elim
    | cont => exact hq.elim

/-! ### the law's end -/
section
variable {P : Program} {w : World} {K : PySem.W.Frag} {mg mb : Str → Option Value} {CX : CXT} {k : Nat} {fa a : Addr} {fd : FuncData} {x : Str} {sp : Sp} {s₁ : Shared} {vs : List Value} {ns : List Int}
/-- from an abstract heap that tracks the script at most -/
theorem lawG_core (KX : K.In s₁.heap) (hns : s₁.heap.Ns mainGlobals mg) (hb : s₁.heap.Ns builtinsNs mb) (hbb : ∀ x : Str, x ≠ "__name__" → mb x = bootBuiltins x) (hlim : s₁.heap.NoLimit) (hg : s₁.gens = #[])
    (ha : s₁.heap.get? a = some { cls := .type "list", data := .seq vs.toArray }) (hr : Room k callerA)
    (F : ∀ base : Heap, K.In base → base.Ns mainGlobals mg → FnOkG P w K mg base CX k fa fd [x] sp) (hbind : ∀ (s : Shared) (u : Value), BindsTo s fd ⟨[u], []⟩ [(x, u)])
    (H : Hp) (hO : Only H) (hsp : sp [.ref a] H (fun v _ => v = .bl true) fun _ _ _ => False) (hok : HOk P w H s₁.heap) (hA : ∀ b, H b ≠ none → b = a) (hK : H a ≠ none → K.lookup a = none)
    (hCX : ∀ e s', CX [] H s₁ (fun _ _ _ => False) e s' → False) :
    codeAny (model P w) callerA (.call (.ref fa) ⟨[.ref a], []⟩) (fun r s' => r = .ok (.ret (.bool true)) ∧ OldK s₁.heap s'.heap ∧ s'.os = s₁.os ∧ AllBare s'.gens) s₁ := by
  have only : ∀ {b : Addr}, b ≠ a → H b = none := fun {b} n => by
    cases q : H b with
    | none => rfl
    | some u => exact absurd (hA b (by rw [q]; simp)) n
  have free_dict : ∀ {b : Addr} {o : Obj} {es : Array DictEntry} {ep : Nat}, s₁.heap.get? b = some o → o.data = .dict es ep → H b = none := fun {b o es ep} e d => only fun z => by
    rw [z, ha] at e
    cases e
    exact nomatch (show Data.seq vs.toArray _ = Data.dict es ep from d)
  have nsK : ∀ {b : Addr} {m : Str → Option Value}, s₁.heap.Ns b m → (hidT s₁.heap H).Ns b m := fun {b m} q => by
    obtain ⟨o, es, ep, e, d, r⟩ := q
    exact ⟨o, es, ep, hidT_get e (free_dict e d), d, r⟩
  have hKb : K.In (hidT s₁.heap H) := fun b o e => hidT_get (KX b o e) (by
    by_cases hba : b = a
    · cases q : H b with
      | none => rfl
      | some u =>
        have z := hK (by rw [← hba, q]; simp)
        rw [hba, z] at e
        cases e
    · exact only hba)
  have hM : Mod K mg (hidT s₁.heap H) := ⟨hKb, nsK hns, ⟨mb, nsK hb, hbb⟩, by
    obtain ⟨mc, h1, h2⟩ := hlim
    exact ⟨mc, nsK h1, h2⟩⟩
  have e0 : Env0 P w K mg (hidT s₁.heap H) callerA [] s₁ H := ⟨rfl, hM, fun b o e => of_hidT e, Nat.le_of_eq (hidT_size _ _), trivial, (fun b hb => nomatch (show b ∈ ([] : List Addr) from hb)), hok, .of_eq hg⟩
  refine codeAny_mono ((F _ hKb (nsK hns)).run callerA [] s₁ H ⟨[.ref a], []⟩ [.ref a] [.ref a] _ _ rfl hr e0 (hbind s₁ (.ref a)) (.cons rfl .nil) hsp) fun r s' h => ?_
  cases r with
  | error e => exact (hCX e s' h).elim
  | ok fl =>
    cases fl with
    | next => exact h.elim
    | brk => exact h.elim
    | cont => exact h.elim
    | ret u =>
      obtain ⟨v, H', os, bare, un, hok', r', rfl⟩ := h
      obtain rfl : u = Value.bool true := r'
      refine ⟨rfl, OldK.of_keep fun b o e => ?_, os, bare⟩
      rcases hO b with z | ⟨ob, xs, z⟩
      · exact un.keep b o e z (fun q => nomatch (show b ∈ ([] : List Addr) from q)) (by simp)
      · obtain ⟨e1, _⟩ := hok b _ z
        obtain ⟨e2, _⟩ := hok' b _ (un.frzs b ob _ z)
        rw [e] at e1
        cases e1
        exact e2
theorem lawG (KX : K.In s₁.heap) (hns : s₁.heap.Ns mainGlobals mg) (hb : s₁.heap.Ns builtinsNs mb) (hbb : ∀ x : Str, x ≠ "__name__" → mb x = bootBuiltins x) (hlim : s₁.heap.NoLimit) (hg : s₁.gens = #[])
    (ha : s₁.heap.get? a = some { cls := .type "list", data := .seq vs.toArray }) (hi : IntsAre vs ns) (hl : ns.length ≤ sizeLine) (hr : Room k callerA)
    (F : ∀ base : Heap, K.In base → base.Ns mainGlobals mg → FnOkG P w K mg base CX k fa fd [x] sp) (hbind : ∀ (s : Shared) (u : Value), BindsTo s fd ⟨[u], []⟩ [(x, u)])
    (hsp : ∀ H : Hp, Only H → SqL K H a (ns.map V.int) → sp [.ref a] H (fun v _ => v = .bl true) fun _ _ _ => False) (hCX : ∀ H e s', CX [] H s₁ (fun _ _ _ => False) e s' → False) :
    codeAny (model P w) callerA (.call (.ref fa) ⟨[.ref a], []⟩) (fun r s' => r = .ok (.ret (.bool true)) ∧ OldK s₁.heap s'.heap ∧ s'.os = s₁.os ∧ AllBare s'.gens) s₁ := by
  have rv := vals_ints hi
  have lenV := hi.length
  cases hk : K.lookup a with
  | some o =>
    have e := KX a o hk
    rw [ha] at e
    cases e
    have hO : Only fun _ => none := fun _ => .inl rfl
    exact lawG_core KX hns hb hbb hlim hg ha hr F hbind (fun _ => none) hO
      (hsp _ hO (.inr ⟨_, vs.toArray, _, hk, rfl, rfl, rfl, by rw [List.size_toArray, lenV]; exact hl, by simpa using rv⟩)) (fun b u z => nomatch (show (none : Option HO) = some u from z)) (fun b z => absurd rfl z) (fun z => absurd rfl z) fun e s' => hCX _ e s'
  | none =>
    have at_a : (fun b => if b = a then some (HO.frz { cls := .type "list", data := .seq vs.toArray } (.lst (ns.map V.int))) else none) a = some (HO.frz { cls := .type "list", data := .seq vs.toArray } (.lst (ns.map V.int))) := if_pos rfl
    have hO : Only fun b => if b = a then some (HO.frz { cls := .type "list", data := .seq vs.toArray } (.lst (ns.map V.int))) else none := fun b => by
      by_cases hb : b = a
      · exact .inr ⟨_, _, if_pos hb⟩
      · exact .inl (if_neg hb)
    refine lawG_core KX hns hb hbb hlim hg ha hr F hbind _ hO (hsp _ hO (.inl (.inr ⟨_, at_a⟩))) (fun b u z => ?_) (fun b z => ?_) (fun _ => hk) fun e s' => hCX _ e s'
    · by_cases hb : b = a
      · subst hb
        have z' := at_a.symm.trans z
        cases z'
        exact ⟨ha, by rw [List.length_map]; exact hl, vs, _, rv, ha⟩
      · exact nomatch ((if_neg hb).symm.trans z)
    · by_cases hb : b = a
      · exact hb
      · exact absurd (if_neg hb) z
end
/-- the end: the goal that the head leaves -/
theorem walkG {l : PySem.W.OpenLaw} {n k : Nat} {q : Program} {loose : List Str} {XP : (Str → Option Value) → Heap → Prop} {YP : World → Heap → Prop} {d : DefRec} {x : Str}
    (hn : l.most = some n) (hn2 : n ≤ sizeLine) (hdf : d.params.defaults = []) (hr : Room k callerA)
    (F : ∀ (w : World) (mg : Str → Option Value) (fa : Addr) (h : Heap), YP w h → h.Ns mainGlobals mg → mg d.name = some (.ref fa) →
      ∃ (K : PySem.W.Frag) (fd : FuncData) (sp : Sp), K.In h ∧ (∀ (s : Shared) (u : Value), BindsTo s fd ⟨[u], []⟩ [(x, u)]) ∧
        (∀ (H : Hp) (a : Addr) (ns : List Int), ns.length ≤ n → Only H → SqL K H a (ns.map V.int) → sp [.ref a] H (fun v _ => v = .bl true) fun _ _ _ => False) ∧
        ∀ base : Heap, K.In base → base.Ns mainGlobals mg → FnOkG l.prog w K mg base CX0 k fa fd [x] sp) :
    PySem.W.WalkO q loose XP YP l.row.toRowW d [] (fun f vs => PySem.call f vs) := by
  refine Att.attach_call hn hdf fun w s₀ s₁ mg mb fa o pm cd doc a vs ns G Y ho hd hcd hmg hobj hints hlen hg => ?_
  obtain ⟨K, fd, sp, KX, hb, hsp, hF⟩ := F w mg fa _ Y G.T.g hmg
  exact lawG KX G.T.g G.T.b G.T.builtins G.T.nolimit hg hobj hints (Nat.le_trans hlen hn2) hr hF hb (fun H hO hS => hsp H a ns hlen hO hS) fun _ _ _ z => z
end T65
end
section
/-! XF: set(xs) of a list of ints; sorted(xs) of a list of data; xs == [], xs != []. -/
namespace T65
open PySem PySem.Spec PyProof.Rows L2

section
variable {P : Program} {w : World} {A : Around} {E : Value → Shared → Prop} {s : Shared}
/-- the object of a set that holds nothing yet -/
abbrev noSet (w : World) : Obj := { cls := .type "set", dict := none, data := .set #[] 0 (.fresh 0 0 (!w.params.followText "set-order")) }

theorem call_set_lst {l : Addr} {items : Array Value} (ns : List Int) {Q : Value → Shared → Prop} (hh : A.handled = none) (hl : s.heap.IsList l items) (hit : IntsAre items.toList ns) (hb : ns.length + 1 < scanBound)
    (h : ∀ (h' : Heap) (tk c : Nat), SetR w h' s.heap.objs.size (fun j => decide (j ∈ ns)) c → c ≤ ns.length →
      (∀ b o, s.heap.get? b = some o → h'.get? b = some o) → Q (.ref s.heap.objs.size) { s with heap := h', toks := tk }) :
    wpAny (model P w) A (call (.type "set") [.ref l]) Q E s := by
  have isz : items.size = ns.length := by
    have q := IntsAre.length hit
    rwa [Array.length_toList] at q
  obtain ⟨c0, tl, hmro⟩ := F.called_set.mro
  have hmade := F.called_set.made
  have hsub := F.called_set.sub
  refine wpAny_call (codeAny_of_tree (show wpAny _ _ (callAny (.type "set") _) _ _ _ from wpAny_pure ⟨Code.quiet_builtin _ (by decide +kernel), codeAny_builtin F.entry_type_call ?_⟩))
  rw [Around.under_plain (weight_type_call_type "set" [.ref l] []) rfl]
  have h1 := F.called_set.notType
  have h2 := F.called_set.canCreate
  have hct := F.typeCall_set_1 (.ref l)
  repeat (any_goals (first | assumption | wp_step))
  refine codeAny_mono (code_set_led1 (.ref l) (E := E) (Q₁ := fun obj s₁ => obj = .ref s.heap.objs.size ∧ s₁ = { s with heap := s.heap.push (noSet w) }) ⟨rfl, rfl⟩) fun r s₁ hr => ?_
  cases r with
  | error e => exact hr
  | ok fl =>
    cases fl with
    | ret obj =>
      obtain ⟨rfl, rfl⟩ := hr
      have hS : (s.heap.push (noSet w)).get? s.heap.objs.size = some (noSet w) := Heap.get?_push_size _ rfl
      have hT : Shared.TypeIs { s with heap := s.heap.push (noSet w) } (.ref s.heap.objs.size) "set" := ⟨_, hS, rfl⟩
      have hli := F.called_set.init.lookup
      have hbi := F.called_set.init.bind (.ref s.heap.objs.size)
      repeat (any_goals (first | assumption | wp_step))
      refine codeAny_mono (codeAny_call_builtin
        (R := wants (fun r s₂ => r = .none ∧ ∃ h' tk c, s₂ = { s with heap := h', toks := tk } ∧ SetR w h' s.heap.objs.size (fun j => decide (j ∈ ns)) c ∧ c ≤ ns.length ∧ (∀ b o, s.heap.get? b = some o → h'.get? b = some o)) E)
        F.called_set.init.plain F.entry_set_init (check_set_init_1 hT ?_)) fun r₂ s₂ hr₂ => ?_
      · obtain ⟨ol, hol, hcl, nl, hdl⟩ := hl
        obtain ⟨ocls, odict, odata, oslots⟩ := ol
        simp only at hcl hdl
        subst hcl hdl
        have hol' : (s.heap.push (noSet w)).get? l = some { cls := .type "list", dict := odict, data := .seq items nl, slots := oslots } := Heap.get?_push_of_some _ hol
        have hsls := F.sub_list_set
        have hslf := F.sub_list_frozenset
        have hne : (Value.type "list" == Value.type "dict") = false := by decide
        have hl1 : (s.heap.push (noSet w)).IsList l items := ⟨_, hol', rfl, nl, rfl⟩
        unfold Builtin.«set.__init__» noKeywords Builtin.Frozenset.updateFrom
        generalize hPI : pyIter = PI
        wp_walk
        subst hPI
        refine wpAny_pyIter_list hl1 (wpAny_bind (wpAny_runValue ?_))
        have lS : l < s.heap.objs.size := Heap.lt_size hol
        have z1 : (s.heap.push (noSet w)).objs.size = s.heap.objs.size + 1 := Heap.size_push ..
        have neI : l ≠ (s.heap.push (noSet w)).objs.size := by
          rw [z1]
          exact Nat.ne_of_lt (Nat.lt_succ_of_lt lS)
        have notIn : s.heap.objs.size ∉ [(s.heap.push (noSet w)).objs.size, l] := by
          rw [z1]
          simp only [List.mem_cons, List.not_mem_nil, or_false, not_or]
          exact ⟨Nat.ne_of_lt (Nat.lt_succ_self _), Nat.ne_of_gt lS⟩
        have val : ∀ (i : Nat) (v : Value), items[i]? = some v → ∃ k t, ns[i]? = some k ∧ v = .int k t := fun i v hv => by
          have hi : i < ns.length := by
            rw [← isz]
            exact (Array.getElem?_eq_some_iff.mp hv).1
          obtain ⟨t, e⟩ := PyProof.Rows.IntsAre.int_at hit i v (by rw [Array.getElem?_toList]; exact hv)
          refine ⟨ns[i], t, List.getElem?_eq_getElem hi, ?_⟩
          rw [e, List.getD_eq_getElem?_getD, List.getElem?_eq_getElem hi] <;> rfl
        refine set_update_ints ((Walks.list (by simp [hh]) _ l neI items).toS) s.heap.objs.size notIn ns isz hb val (items.size - 0) 0 _ (by omega) (Nat.zero_le _) ⟨⟨_, Heap.get?_push_size _ rfl, rfl, rfl⟩, hl1.push _⟩ ?hS0 ?hR
        case hS0 => exact ⟨0, Nat.le_refl 0, setR_new_at (Heap.get?_push_of_some _ hS)⟩
        case hR =>
          intro s' c' hm hc' hS'
          obtain ⟨h', g2, d', tk', os'⟩ := s'
          obtain rfl : g2 = s.gens := hm.gens
          obtain rfl : d' = s.drawn := hm.drawn
          obtain rfl : os' = s.os := hm.os
          show wpAny _ _ _ _ _ _
          refine wpAny_pure (show wpAny _ _ (ret Value.none) _ _ _ from ?_)
          rw [isz] at hc'
          refine wpAny_pure ⟨rfl, h', tk', c', rfl, hS', hc', fun b o e => ?_⟩
          have b0 : b < s.heap.objs.size := Heap.lt_size e
          refine hm.heap b o ?_ (Heap.get?_push_of_some _ (Heap.get?_push_of_some _ e))
          simp only [List.mem_cons, List.not_mem_nil, or_false, not_or, z1]
          exact ⟨Nat.ne_of_lt b0, Nat.ne_of_lt (Nat.lt_succ_of_lt b0)⟩
      · cases r₂ with
        | error e => exact hr₂
        | ok fl₂ =>
          cases fl₂ with
          | ret r =>
            obtain ⟨rfl, h', tk, c', rfl, hS', hc', hk'⟩ := hr₂
            repeat (any_goals (first | assumption | wp_step))
            exact h _ _ _ hS' hc' hk'
          | _ => exact hr₂.elim
    | _ => exact hr.elim
end

end T65
end
section
/-! XJ: set(xs) as a tracked set; sorted(xs) of data; xs == []. -/
namespace T65
open PySem PySem.Spec PyProof.Rows L2
/-! ### set(xs) as a tracked set; sorted(xs) of data; xs == [] -/
section
variable {X : Cx}
theorem cr_setL (hc : X.calm = true) : CallR X (.type "set") (fun xs H Q => ∃ (a : Addr) (ns : List Int), xs = [.ref a] ∧ SqL X.K H a (ns.map V.int) ∧ ns.length + 1 < scanBound ∧
    ∀ (p : Addr) (n : Nat), n ≤ ns.length → H p = none → Q (.ref p) (upd H p (SetO X.w p (fun j => decide (j ∈ ns)) n))) := by
  intro pins s σ H xs us Q I r h
  obtain ⟨a, ns, rfl, hl, hb, q⟩ := h
  obtain ⟨u, rfl, ru⟩ := vals1 r
  obtain rfl : u = Value.ref a := ru
  obtain ⟨its, rv, hL, _⟩ := I.list hl
  obtain ⟨o, n, ho, hcl, _, hd⟩ := hL
  refine call_set_lst ns (I.ok.hd hc) ⟨o, ho, hcl, n, hd⟩ (by simpa using intsAre_of rv) hb fun h' tk c hS hcn k => ?_
  exact ⟨.ref s.heap.objs.size, _, I.laid (t' := tk) k (Nat.le_refl _) (setO_new hS), rfl, q _ c hcn I.fresh⟩

theorem each_of {h : Heap} {H : Hp} : ∀ {vs : List V} {us : List Value} {ds : List PyData}, Vals vs us → TDs H vs ds → PySem.W.EachIs (fun (u : Value) (b : V × PyData) => RelV b.1 u ∧ TD H b.1 b.2) us (vs.zip ds)
  | _, _, _, .nil, h => by
    cases h
    exact .nil
  | _, _, _, .cons a r, h => by
    cases h with
    | cons a2 r2 => exact .cons ⟨a, a2⟩ (each_of (h := h) r r2)
theorem of_each {H : Hp} : ∀ {us : List Value} {bs : List (V × PyData)}, PySem.W.EachIs (fun (u : Value) (b : V × PyData) => RelV b.1 u ∧ TD H b.1 b.2) us bs → Vals (bs.map (·.1)) us ∧ TDs H (bs.map (·.1)) (bs.map (·.2))
  | _, _, .nil => ⟨.nil, .nil⟩
  | _, _, .cons a r => ⟨.cons a.1 (of_each r).1, .cons a.2 (of_each r).2⟩
theorem zip_snd {H : Hp} : ∀ {vs : List V} {ds : List PyData}, TDs H vs ds → (vs.zip ds).map (·.2) = ds
  | _, _, .nil => rfl
  | _, _, .cons _ r => by
    rw [List.zip_cons_cons, List.map_cons, zip_snd r]
theorem each_imp {α β : Type} {R R' : α → β → Prop} : ∀ {as : List α} {bs : List β}, PySem.W.EachIs R as bs → (∀ a b, R a b → R' a b) → PySem.W.EachIs R' as bs
  | _, _, .nil, _ => .nil
  | _, _, .cons a r, h => .cons (h _ _ a) (each_imp r h)
theorem cr_sortedT (hu : X.A.units + 64 < cLine) : CallR X (.builtin "sorted") (fun xs H Q => ∃ (a : Addr) (vs : List V) (ds : List PyData), xs = [.ref a] ∧ SqL X.K H a vs ∧ TDs H vs ds ∧ PySem.W.AllAlike ds ∧ PySem.W.Sortable ds ∧ (∀ d ∈ ds, d.depth ≤ 60) ∧
    ∀ (p : Addr) (ys : List V), TDs H ys (ds.mergeSort (PySem.W.dataLe false id)) → H p = none → Q (.ref p) (upd H p (.lst ys))) := by
  intro pins s σ H xs us Q I r h
  obtain ⟨a, vs, ds, rfl, hl, ht, al, so, dp, q⟩ := h
  obtain ⟨u, rfl, ru⟩ := vals1 r
  obtain rfl : u = Value.ref a := ru
  obtain ⟨its, rv, hL, hz⟩ := I.list hl
  obtain ⟨o, n, ho, hcl, _, hd⟩ := hL
  have e1 := each_of (h := s.heap) rv ht
  have e2 : (vs.zip ds).map (·.2) = ds := zip_snd ht
  have e2' : (vs.zip ds).map (fun b : V × PyData => b.2) = ds := e2
  have len : (vs.zip ds).length = vs.length := by
    rw [List.length_zip, ← ht.len]
    exact Nat.min_self _
  refine PySem.W.sorted_data (vs := its) (bs := vs.zip ds) (enc := fun b => b.2) (R := fun u b => RelV b.1 u ∧ TD H b.1 b.2) ⟨o, ho, hcl, n, hd⟩ e1 (each_imp e1 fun v b z => ⟨[], TD.reads I _ _ _ z.2 z.1⟩) (by rw [e2']; exact al) (by rw [e2']; exact so) (by rw [len]; exact hz) (fun b hb => ?_) (fun out hlen eo => ?_)
  · have := dp b.2 (by rw [← e2]; exact List.mem_map_of_mem hb)
    omega
  · obtain ⟨m, F⟩ := I.fr
    have em : ((vs.zip ds).mergeSort (PySem.W.dataLe false fun b => b.2)).map (·.2) = ds.mergeSort (PySem.W.dataLe false id) := by
      rw [List.map_mergeSort (r := PySem.W.dataLe false fun b : V × PyData => b.2) (s := PySem.W.dataLe false id) (f := fun b => b.2) (fun _ _ _ _ => rfl), e2]
    obtain ⟨v1, t1⟩ := of_each eo
    rw [em] at t1
    obtain ⟨c, F2, N2, _, k⟩ := PySem.W.sorted_news F (fun p hp => absurd hp (List.not_mem_nil)) its out
    have hN := (N2 _ (List.mem_cons_self ..)).1
    have hz2 : (((vs.zip ds).mergeSort (PySem.W.dataLe false fun b => b.2)).map (·.1)).length ≤ sizeLine := by
      rw [List.length_map, List.length_mergeSort, len]
      exact hz
    exact ⟨.ref (s.heap.objs.size + 1), _, I.laid (t' := s.toks) (o := .lst (((vs.zip ds).mergeSort (PySem.W.dataLe false fun b => b.2)).map (·.1))) k (Nat.le_succ _) ⟨hz2, out, _, v1, hN⟩, rfl, q _ _ t1 (I.hok.fresh (Nat.le_succ _))⟩

/-- xs == [] of a list of anything -/
def rEqNil (K : PySem.W.Frag) : R2 := fun x y H Q => ∃ (l p : Addr) (xs : List V), x = .ref l ∧ y = .ref p ∧ SqL K H l xs ∧ SqL K H p [] ∧ Q (.bl xs.isEmpty) H
def rNeNil (K : PySem.W.Frag) : R2 := fun x y H Q => ∃ (l p : Addr) (xs : List V), x = .ref l ∧ y = .ref p ∧ SqL K H l xs ∧ SqL K H p [] ∧ Q (.bl (!xs.isEmpty)) H
theorem nil_lists {pins : List (Addr × Obj)} {σ : L2.St} {H : Hp} {s : Shared} (I : Inv X pins σ H s) {l : Addr} {xs : List V} (h : SqL X.K H l xs) : ∃ items : Array Value, s.heap.IsList l items ∧ items.size = xs.length := by
  obtain ⟨its, rv, ⟨o, n, ho, hcl, _, hd⟩, _⟩ := I.list h
  exact ⟨_, ⟨o, ho, hcl, n, hd⟩, by rw [List.size_toArray]; exact (Vals.length rv).symm⟩
theorem op_eqNil (hu : X.A.units + 64 < cLine) : OpR X (compareOp .Eq) (rEqNil X.K) := by
  intro pins s σ H x y v u Q I rx ry h
  obtain ⟨l, p, xs, rfl, rfl, hl, hp, q⟩ := h
  obtain rfl : v = Value.ref l := rx
  obtain rfl : u = Value.ref p := ry
  obtain ⟨i1, l1, z1⟩ := nil_lists I hl
  obtain ⟨i2, l2, z2⟩ := nil_lists I hp
  have hu' : X.A.units < cLine := by omega
  cases xs with
  | nil =>
    refine SeqAt.eq_listAt (e := fun _ => true) l1 l2 (by rw [z1, z2]) hu' (fun j h1 _ => absurd h1 (by rw [z1]; simp)) ?_
    rw [z1]
    exact ⟨.bl true, H, I, rfl, q⟩
  | cons a r =>
    refine SeqAt.eq_list_lengthsAt l1 l2 (by rw [z1, z2]; simp) hu' ?_
    exact ⟨.bl false, H, I, rfl, q⟩
theorem op_neNil (hu : X.A.units + 64 < cLine) : OpR X (compareOp .NotEq) (rNeNil X.K) := by
  intro pins s σ H x y v u Q I rx ry h
  obtain ⟨l, p, xs, rfl, rfl, hl, hp, q⟩ := h
  obtain rfl : v = Value.ref l := rx
  obtain rfl : u = Value.ref p := ry
  obtain ⟨i1, l1, z1⟩ := nil_lists I hl
  obtain ⟨i2, l2, z2⟩ := nil_lists I hp
  have hu' : X.A.units < cLine := by omega
  cases xs with
  | nil =>
    refine SeqAt.RcNeAt.lists (e := fun _ => true) l1 l2 (by rw [z1, z2]) hu' (fun j h1 _ => absurd h1 (by rw [z1]; simp)) _ _ _ _ ?_
    rw [z1]
    exact ⟨.bl false, H, I, rfl, q⟩
  | cons a r =>
    exact SeqAt.RcNeAt.lists_lengths l1 l2 (by rw [z1, z2]; simp) hu' _ _ _ _ ⟨.bl true, H, I, rfl, q⟩
/-- data, for == and != -/
theorem TD.dp {K : PySem.W.Frag} {H : Hp} : ∀ {v : V} {d : PyData}, TD H v d → Dp K H v d := by
  intro v d h
  exact TD.rec (motive_1 := fun v d _ => Dp K H v d) (motive_2 := fun vs ds _ => DpAll K H vs ds) .non .bl .int .str (fun ha _ ih => .tup (SqT.of ha) ih) .nil (fun _ _ a b => .cons a b) h
end
end T65
end
section
/-! XG: calls of defs by one package (Cal, MCal), what a heap keeps (Kp), comprehensions and loops by a word of the turn. -/
namespace T65
open PySem PySem.Spec PyProof.Rows L2

/-! ### a def, packed for its callers -/
def Cal (P : Program) (w : World) (K : PySem.W.Frag) (mg : Str → Option Value) (base : Heap) (CX : CXT) (k : Nat) (x : Str) (ps : List Str) (sp : Sp) : Prop :=
  ∃ f fd, FnOk P w K mg base CX k f fd ps sp ∧ mg x = some (.ref f) ∧ PySem.W.keepIn K (.ref f) = true ∧ Binds K fd ps []
def MCal (P : Program) (w : World) (K : PySem.W.Frag) (mg : Str → Option Value) (base : Heap) (CX : CXT) (k : Nat) (C : Addr) (m : Str) (ps : List Str) (sp : Sp) : Prop :=
  ∃ f fd, FnOk P w K mg base CX k f fd ps sp ∧ Meth K C m f ∧ Binds K fd ps []
theorem Cal.imp {P : Program} {w : World} {K : PySem.W.Frag} {mg : Str → Option Value} {base : Heap} {CX : CXT} {j k : Nat} {x : Str} {ps : List Str} {sp sp' : Sp} (c : Cal P w K mg base CX j x ps sp) (hj : j ≤ k) (h : ∀ vs H Q E, sp' vs H Q E → sp vs H Q E) : Cal P w K mg base CX k x ps sp' := by
  obtain ⟨f, fd, h1, h2, h3, h4⟩ := c
  exact ⟨f, fd, (h1.mono hj).imp h, h2, h3, h4⟩
theorem MCal.imp {P : Program} {w : World} {K : PySem.W.Frag} {mg : Str → Option Value} {base : Heap} {CX : CXT} {j k : Nat} {C : Addr} {x : Str} {ps : List Str} {sp sp' : Sp} (c : MCal P w K mg base CX j C x ps sp) (hj : j ≤ k) (h : ∀ vs H Q E, sp' vs H Q E → sp vs H Q E) : MCal P w K mg base CX k C x ps sp' := by
  obtain ⟨f, fd, h1, h2, h4⟩ := c
  exact ⟨f, fd, (h1.mono hj).imp h, h2, h4⟩
section
variable {X : Cx} {CX : CXT} {j k : Nat} {C : Addr} {ps : List Str} {sp : Sp} {E : XK} {x m : Str} {p pos apos : Pos} {e o : Expr} {es : List Expr} {ta : TE} {t : TA}
theorem pe_cal (c : Cal X.prog X.w X.K X.mg X.base CX j x ps sp) (hr : Room k X.A) (hx : Passes CX X E) (ha : PA X (e :: es) t) (hj : j ≤ k := by first | decide | exact Nat.le_refl _ | omega) (hg : Gl X x := by rfl)
    (hdb : (x == ("__debug__" : Str)) = false := by decide) (he : starEach (e :: es) X.env = (false, eval e X.env) :: starEach es X.env := by rfl) (hpl : (backTo pos (starEach es X.env)).any (·.1) = false := by rfl) :
    PE X (.Call (.Name x p) (e :: es) [] pos) (tCall sp [] E t) := by
  obtain ⟨f, fd, h1, h2, h3, h4⟩ := c
  exact pe_call h1 (hr.mono hj) hg h2 h3 h4 .nil hx ha hdb he hpl
theorem pe_mcal {pl : Sem Bool} (c : MCal X.prog X.w X.K X.mg X.base CX j C m ps sp) (cl : Cls X.K C) (he : PE X o ta) (hr : Room k X.A) (hx : Passes CX X E) (ha : PA X (e :: es) t) (hj : j ≤ k := by first | decide | exact Nat.le_refl _ | omega)
    (hst : starEach (e :: es) X.env = (false, eval e X.env) :: starEach es X.env := by rfl) (hpl : (backTo pos (starEach es X.env)).any (·.1) = false := by rfl)
    (ht : eval (.Call (.Attribute o m apos) (e :: es) [] pos) X.env = (do
      let ov ← eval o X.env
      standAt apos.atName
      let (f, first) ← holding [ov] (getMethod ov m pl)
      callWith pos f first (backTo pos (starEach (e :: es) X.env)) (backToKw pos (keywordEach [] X.env))) := by rfl) :
    PE X (.Call (.Attribute o m apos) (e :: es) [] pos) (tMeth C m sp [] E ta t) := by
  obtain ⟨f, fd, h1, h2, h4⟩ := c
  exact pe_meth (pl := pl) he cl h2 h1 (hr.mono hj) h4 .nil hx ha hst hpl ht
theorem pe_mcal0 {pl : Sem Bool} (c : MCal X.prog X.w X.K X.mg X.base CX j C m ps sp) (cl : Cls X.K C) (he : PE X o ta) (hr : Room k X.A) (hx : Passes CX X E) (hj : j ≤ k := by first | decide | exact Nat.le_refl _ | omega)
    (ht : eval (.Call (.Attribute o m apos) [] [] pos) X.env = (do
      let ov ← eval o X.env
      standAt apos.atName
      let (f, first) ← holding [ov] (getMethod ov m pl)
      callWith pos f first (backTo pos (starEach [] X.env)) (backToKw pos (keywordEach [] X.env))) := by rfl) :
    PE X (.Call (.Attribute o m apos) [] [] pos) (tMeth C m sp [] E ta tNil) := by
  obtain ⟨f, fd, h1, h2, h4⟩ := c
  exact pe_meth0 (pl := pl) he cl h2 h1 (hr.mono hj) h4 .nil hx ht
/-- a constant of the module -/
theorem pe_gc {v : V} (h : ∃ u, X.mg x = some u ∧ RelV v u) (hg : Gl X x := by rfl) (hd : (x == ("__debug__" : Str)) = false := by decide) : PE X (.Name x pos) (tC v) := by
  obtain ⟨u, h1, h2⟩ := h
  exact pe_glob hg h1 h2 hd
end
/-- a def's own promise, packed -/
theorem cal_of {P : Program} {w : World} {K : PySem.W.Frag} {mg : Str → Option Value} {base : Heap} {x : Str} {st : Stmt} {f : Addr} {fd : FuncData} {CX : CXT} {N ps : List Str} {k : Nat} {sp : Sp}
    (F : FunD K x x (defArgs st) (defBody st) (defScope st) [] [] f fd) (g : mg x = some (.ref f)) (S : FnScope N ps (defScope st)) (len : ∀ vs H Q E, sp vs H Q E → vs.length = ps.length)
    (hbody : ∀ (cdv : Value) (A : Around) (outer : List Env) (s : Shared) (H : Hp) (vs : List V) (Q : VK) (E : XK), Room k (A.deeper (envOfC x (defScope st) s.heap.objs.size f cdv)) → sp vs H Q E →
      ∃ t, PSs (cxOf CX P w K mg base N x (defScope st) f cdv A outer s H E) (defBody st) t ∧ t { nx := fun _ H' => Q .non H', rt := Q } (start N vs) H)
    (hb : ∀ (kV doc pm : Value) (an : Option Addr) (cdv ct : Value) (us : List Value), us.length = ps.length → bindArgs (PySem.W.fnOf x x (defArgs st) (defBody st) (defScope st) .none kV doc pm an cdv ct) ⟨us, []⟩ = pure (ps.zip us)) :
    Cal P w K mg base CX (k + 1) x ps sp := ⟨f, fd, F.ok S len hbody, g, F.kp, F.bindsN hb⟩
theorem mcal_of {P : Program} {w : World} {K : PySem.W.Frag} {mg : Str → Option Value} {base : Heap} {x q : Str} {st : Stmt} {C f : Addr} {fd : FuncData} {CX : CXT} {N ps : List Str} {k : Nat} {sp : Sp}
    (F : FunD K x q (defArgs st) (defBody st) (defScope st) [] [] f fd) (g : Meth K C x f) (S : FnScope N ps (defScope st)) (len : ∀ vs H Q E, sp vs H Q E → vs.length = ps.length)
    (hbody : ∀ (cdv : Value) (A : Around) (outer : List Env) (s : Shared) (H : Hp) (vs : List V) (Q : VK) (E : XK), Room k (A.deeper (envOfC q (defScope st) s.heap.objs.size f cdv)) → sp vs H Q E →
      ∃ t, PSs (cxOf CX P w K mg base N q (defScope st) f cdv A outer s H E) (defBody st) t ∧ t { nx := fun _ H' => Q .non H', rt := Q } (start N vs) H)
    (hb : ∀ (kV doc pm : Value) (an : Option Addr) (cdv ct : Value) (us : List Value), us.length = ps.length → bindArgs (PySem.W.fnOf x q (defArgs st) (defBody st) (defScope st) .none kV doc pm an cdv ct) ⟨us, []⟩ = pure (ps.zip us)) :
    MCal P w K mg base CX (k + 1) C x ps sp := ⟨f, fd, F.ok S len hbody, g, F.bindsN hb⟩

/-! ### what a heap keeps -/
/-- all but what stands at R is as it was; tuples and dicts stand; nothing is let go -/
structure Kp (R : List Addr) (H H' : Hp) : Prop where
  kp : ∀ b o, b ∉ R → H b = some o → H' b = some o
  td : Td H H'
  th : ∀ b, H b ≠ none → H' b ≠ none
theorem Kp.refl (R : List Addr) (H : Hp) : Kp R H H := ⟨fun _ _ _ e => e, ⟨fun _ _ e => e, fun _ _ e => e⟩, fun _ e => e⟩
theorem Kp.trans {R : List Addr} {H H1 H2 : Hp} (a : Kp R H H1) (b : Kp R H1 H2) : Kp R H H2 :=
  ⟨fun x o n e => b.kp x o n (a.kp x o n e), ⟨fun x xs e => b.td.1 x xs (a.td.1 x xs e), fun x xs e => b.td.2 x xs (a.td.2 x xs e)⟩, fun x e => b.th x (a.th x e)⟩
theorem Kp.mono {R S : List Addr} {H H1 : Hp} (a : Kp R H H1) (h : ∀ b ∈ R, b ∈ S) : Kp S H H1 := ⟨fun x o n e => a.kp x o (fun z => n (h x z)) e, a.td, a.th⟩
theorem Kp.any {S : List Addr} {H H1 : Hp} (a : Kp [] H H1) : Kp S H H1 := a.mono fun _ z => by simp at z
theorem Kp.tu {R : List Addr} {H H' : Hp} (a : Kp R H H') : Tu H H' := a.td.1
theorem Kp.fresh {R : List Addr} {H H' : Hp} (a : Kp R H H') {p : Addr} (h : H' p = none) : H p = none := by
  cases e : H p with
  | none => rfl
  | some o => exact absurd h (a.th p (by rw [e]; simp))
/-- what stands at an address that was free is changed -/
theorem Kp.upN {R : List Addr} {H H1 : Hp} (a : Kp R H H1) {p : Addr} (h : H p = none) (o : HO) : Kp R H (upd H1 p o) := by
  have ne : ∀ {b : Addr} {u : HO}, H b = some u → b ≠ p := fun e => ne_of_none e h
  refine ⟨fun x u n e => by rw [upd_ne (ne e)]; exact a.kp x u n e, ⟨fun x xs e => by rw [upd_ne (ne e)]; exact a.td.1 x xs e, fun x xs e => by rw [upd_ne (ne e)]; exact a.td.2 x xs e⟩, fun x e => ?_⟩
  by_cases hx : x = p
  · rw [hx, upd_same]
    simp
  · rw [upd_ne hx]
    exact a.th x e
theorem Kp.new {R : List Addr} {H H1 : Hp} (a : Kp R H H1) {p : Addr} (h : H1 p = none) (o : HO) : Kp R H (upd H1 p o) := a.upN (a.fresh h) o
/-- what stands at one of R is changed: a list, an instance -/
def Chg : Option HO → Prop
  | some (.lst _) => True
  | some (.ins _ _ _) => True
  | _ => False
theorem Kp.upR {R : List Addr} {H H1 : Hp} (a : Kp R H H1) {p : Addr} (hp : p ∈ R) (h : Chg (H p)) (o : HO) : Kp R H (upd H1 p o) := by
  refine ⟨fun x u n e => ?_, ⟨fun x xs e => ?_, fun x xs e => ?_⟩, fun x e => ?_⟩
  · have hx : x ≠ p := fun z => n (z ▸ hp)
    rw [upd_ne hx]
    exact a.kp x u n e
  · have hx : x ≠ p := fun z => by
      rw [← z, e] at h
      exact h
    rw [upd_ne hx]
    exact a.td.1 x xs e
  · have hx : x ≠ p := fun z => by
      rw [← z, e] at h
      exact h
    rw [upd_ne hx]
    exact a.td.2 x xs e
  · by_cases hx : x = p
    · rw [hx, upd_same]
      simp
    · rw [upd_ne hx]
      exact a.th x e
theorem Kp.at_ {R : List Addr} {H H1 : Hp} (a : Kp R H H1) {b : Addr} {o : HO} (e : H b = some o) (n : b ∉ R) : H1 b = some o := a.kp b o n e
theorem Kp.at0 {H H1 : Hp} (a : Kp [] H H1) {b : Addr} {o : HO} (e : H b = some o) : H1 b = some o := a.kp b o (by simp) e
theorem Kp.seq {R : List Addr} {H H1 : Hp} {K : PySem.W.Frag} (a : Kp R H H1) {b : Addr} {xs : List V} (e : SqL K H b xs) (n : b ∉ R) : SqL K H1 b xs := by
  rcases e with (e | ⟨o, e⟩) | e
  · exact .inl (.inl (a.kp b _ n e))
  · exact .inl (.inr ⟨o, a.kp b _ n e⟩)
  · exact .inr e
theorem Kp.seq0 {H H1 : Hp} {K : PySem.W.Frag} (a : Kp [] H H1) {b : Addr} {xs : List V} (e : SqL K H b xs) : SqL K H1 b xs := a.seq e (by simp)

/-! ### walks by a word of the turn -/
theorem lc_by {J : It} {g : TG} {tt : TT} {te : TE} {vs : List Nat} {σ : L2.St} {H1 : Hp} {D : Addr} {Qd : Hp → Prop} (n : Nat) (Pv : Nat → Hp → Prop) (h0 : Pv 0 (upd H1 D (.lst []))) (hgo : ∀ i H, i < n → Pv i H → J.go i H) (hstop : ∀ H, Pv n H → J.stop n H)
    (hs : ∀ i x H H', i < n → Pv i H → J.yld i H x H' → g x (wipe σ vs) H' fun σ2 H2 => wipe σ2 vs = wipe σ vs ∧ tt σ2 H2 fun b H3 =>
      if b = true then te σ2 H3 fun y H4 => ∃ acc, H4 D = some (.lst acc) ∧ acc.length < sizeLine ∧ Pv (i + 1) (upd H4 D (.lst (acc ++ [y]))) else Pv (i + 1) H3) (hd : ∀ H, Pv n H → Qd H) :
    ∃ W : Nat → Nat → Hp → Prop, (∃ m, W 0 m (upd H1 D (.lst []))) ∧ ∀ i m H, W i m H →
      (J.stop i H ∧ Qd H) ∨ (J.go i H ∧ ∃ Nx : Hp → Prop, (∀ H', Nx H' → ∃ m', m' < m ∧ W (i + 1) m' H') ∧ ∀ x H', J.yld i H x H' → g x (wipe σ vs) H' fun σ2 H2 => wipe σ2 vs = wipe σ vs ∧ tt σ2 H2 fun b H3 =>
        if b = true then te σ2 H3 fun y H4 => ∃ acc, H4 D = some (.lst acc) ∧ acc.length < sizeLine ∧ Nx (upd H4 D (.lst (acc ++ [y]))) else Nx H3) := by
  refine ⟨fun i m H => i + m = n ∧ Pv i H, ⟨n, Nat.zero_add n, h0⟩, fun i m H hw => ?_⟩
  obtain ⟨e, p⟩ := hw
  cases m with
  | zero =>
    have e' : i = n := e
    subst e'
    exact .inl ⟨hstop _ p, hd _ p⟩
  | succ m =>
    have hi : i < n := by omega
    exact .inr ⟨hgo i H hi p, Pv (i + 1), fun H' p' => ⟨m, Nat.lt_succ_self m, by omega, p'⟩, fun x H' y => hs i x H H' hi p y⟩
theorem for_by {J : It} {g : TG} {tb : TS} {D : Ends} {σ : L2.St} {H : Hp} (n : Nat) (Pv : Nat → L2.St → Hp → Prop) (h0 : Pv 0 σ H) (hgo : ∀ i σ H, i < n → Pv i σ H → J.go i H) (hstop : ∀ σ H, Pv n σ H → J.stop n H)
    (hs : ∀ i x σ H H', i < n → Pv i σ H → J.yld i H x H' → g x σ H' fun σ2 H2 => tb { D with nx := Pv (i + 1), ct := Pv (i + 1), bk := D.nx } σ2 H2) (hd : ∀ σ H, Pv n σ H → D.nx σ H) :
    ∃ W : Nat → Nat → L2.St → Hp → Prop, (∃ m, W 0 m σ H) ∧ ∀ i m σ H, W i m σ H →
      (J.stop i H ∧ D.nx σ H) ∨ (J.go i H ∧ ∃ N : L2.St → Hp → Prop, (∀ σ' H', N σ' H' → ∃ m', m' < m ∧ W (i + 1) m' σ' H') ∧ ∀ x H', J.yld i H x H' → g x σ H' fun σ2 H2 => tb { D with nx := N, ct := N, bk := D.nx } σ2 H2) := by
  refine ⟨fun i m σ H => i + m = n ∧ Pv i σ H, ⟨n, Nat.zero_add n, h0⟩, fun i m σ H hw => ?_⟩
  obtain ⟨e, p⟩ := hw
  cases m with
  | zero =>
    have e' : i = n := e
    subst e'
    exact .inl ⟨hstop _ _ p, hd _ _ p⟩
  | succ m =>
    have hi : i < n := by omega
    exact .inr ⟨hgo i σ H hi p, Pv (i + 1), fun σ' H' p' => ⟨m, Nat.lt_succ_self m, by omega, p'⟩, fun x H' y => hs i x σ H H' hi p y⟩
/-- while, by a word with its measure -/
theorem while_m {c : TT} {tb : TS} {D : Ends} {σ : L2.St} {H : Hp} (W : Nat → L2.St → Hp → Prop) (m : Nat) (h0 : W m σ H)
    (hs : ∀ m σ H, W m σ H → c σ H fun b H1 => if b = true then tb { D with nx := fun σ' H' => ∃ m', m' < m ∧ W m' σ' H', ct := fun σ' H' => ∃ m', m' < m ∧ W m' σ' H', bk := D.nx } σ H1 else D.nx σ H1)
    (mono : ∀ σ H Q Q', (∀ b H1, Q b H1 → Q' b H1) → c σ H Q → c σ H Q') : tWhile c tb D σ H :=
  ⟨W, ⟨m, h0⟩, fun m σ H hw => mono σ H _ _ (fun b H1 q => by
    cases b with
    | true => exact ⟨_, fun σ' H' z => z, q⟩
    | false => exact q) (hs m σ H hw)⟩
end T65
end
section
/-! XK: rules whose readings name the written part, by its own name (for comprehensions' blocks). -/
namespace T65
open PySem PySem.Spec PyProof.Rows L2
section
variable {X : Cx} {K : PySem.W.Frag}
theorem pg_tupK {es : List Expr} {k : Nat} {t : TGs} {n : Nat} {pos : Pos} (hK : X.K = K) (hc : X.calm = true) (h : PGs X es t)
    (hn : (assignEach es X.env).length = n := by rfl) (hst : (assignEach es X.env).findIdx? (·.1) = none := by rfl) : PG X (.Tuple es k pos) (gTup K n t) := by
  subst hK
  exact pg_tup hc h hn hst
theorem pi_tupK {tg l : Expr} {tl : TE} (hK : X.K = K) (hl : PE X l tl) : PI X tg l (iTup K tl) := by
  subst hK
  exact pi_tup hl
theorem pi_listK {tg l : Expr} {tl : TE} (hK : X.K = K) (hl : PE X l tl) : PI X tg l (iList K tl) := by
  subst hK
  exact pi_list hl
def rJoin (K : PySem.W.Frag) : V → List V → Hp → VK → Prop := fun x xs H Q => ∃ a p, ∃ ys : List Str, x = .str a ∧ xs = [.ref p] ∧ (SqL K H p (ys.map V.str) ∨ SqT K H p (ys.map V.str)) ∧ (ys.map (·.length)).sum + ys.length * a.length ≤ 16777216 ∧ Q (.str (Txt.join a ys)) H
theorem pe_joinK {o e : Expr} {to te : TE} {apos pos : Pos} (hK : X.K = K) (ho : PE X o to) (he : PE X e te) (hs : starEach [e] X.env = [(false, eval e X.env)] := by rfl) (hbase : attributeBase o "join" X.env (eval o X.env) = eval o X.env := by rfl) (hline : (apos.endLine == pos.line) = true := by rfl) :
    PE X (.Call (.Attribute o "join" apos) [e] [] pos) (tM1 (rJoin K) to te) := by
  subst hK
  exact pe_join ho he hs hbase hline
end
end T65
namespace T65
open PySem PySem.Spec PyProof.Rows L2
/-- (v,) == (u,), flat items -/
def rEqT1 (K : PySem.W.Frag) : R2 := fun x y H Q => ∃ (a b : Addr) (v u : V), x = .ref a ∧ y = .ref b ∧ SqT K H a [v] ∧ SqT K H b [u] ∧ flatV v = true ∧ flatV u = true ∧ Q (.bl (eqV v u)) H
theorem op_eqT1 {X : Cx} (hu : X.A.units + 64 < cLine) : OpR X (compareOp .Eq) (rEqT1 X.K) := by
  intro pins s σ H x y v0 u0 Q I rx ry h
  obtain ⟨a, b, v, u, rfl, rfl, ha, hb, fv, fu, q⟩ := h
  obtain rfl : v0 = Value.ref a := rx
  obtain rfl : u0 = Value.ref b := ry
  obtain ⟨i1, r1, ⟨o1, ho1, hc1, n1, hd1⟩, _⟩ := I.tuple ha
  obtain ⟨i2, r2, ⟨o2, ho2, hc2, n2, hd2⟩, _⟩ := I.tuple hb
  obtain ⟨w1, rfl, rv⟩ := Vals.one r1
  obtain ⟨w2, rfl, ru⟩ := Vals.one r2
  refine SeqAt.eq_tupleAt (items := [w1].toArray) (items2 := [w2].toArray) (e := fun _ => eqV v u) ⟨o1, ho1, hc1, n1, hd1⟩ ⟨o2, ho2, hc2, n2, hd2⟩ (by omega) (fun j h1 h2 => ?_) ?_
  · have e : j = 0 := by
      simp at h1
      omega
    subst e
    exact eqAt_V rv ru fv fu
  · refine ⟨.bl (eqV v u), H, I, ?_, q⟩
    show _ = _
    congr 1
    simp
end T65
end
section
/-! Ma: the mirror in plain Lean: signs, words, tokens, the reader of each kind of text. -/
namespace T65
open PySem PySem.W TL

abbrev zSmall : Str := "abcdefghijklmnopqrstuvwxyz"
abbrev zFig : Str := "0123456789"
abbrev zSigns : Str := "abcdefghijklmnopqrstuvwxyz0123456789@"
def isSm (c : Nat) : Bool := decide (c ∈ zSmall.cps.toList)
def isFg (c : Nat) : Bool := decide (c ∈ zFig.cps.toList)
def isSg (c : Nat) : Bool := decide (c ∈ zSigns.cps.toList)
def mkS (l : List Nat) : Str := ⟨l.toArray⟩

/-! ### words -/
def nameM (x : Str) : Bool := decide (1 ≤ x.length) && decide (x.length ≤ 8) && (tl x).all isSm
def figsM (x : Str) (most : Nat) : Option Nat :=
  if (decide (1 ≤ x.length) && decide (x.length ≤ 8) && (tl x).all isFg) = true then
    if (tl x)[0]? = some 48 ∧ x ≠ "0" then none else if NumText.digitsVal (tl x) ≤ most then some (NumText.digitsVal (tl x)) else none
  else none
def letterM (x : Str) : Bool := nameM (Txt.partition x "@").1 && ((Txt.partition x "@").2.1 == ("" : Str) || (figsM (Txt.partition x "@").2.2 9999).isSome)

/-! ### tokens -/
abbrev TkL := List (Str × Nat)
def endT (L : List Nat) (i : Nat) : Nat := i + 1 + (if isSg (L.getD i 0) = true then ((L.drop (i + 1)).takeWhile isSg).length else 0)
def lexF (L : List Nat) : Nat → Nat → TkL
  | 0, _ => []
  | f + 1, i => if i < L.length then (if L.getD i 0 = 32 then [] else [(mkS ((L.drop i).take (endT L i - i)), i + 1)]) ++ lexF L f (endT L i) else []
def toks (x : Str) : TkL := lexF (tl x) x.length 0 ++ [(("" : Str), x.length + 1)]
def tk (T : TkL) (p : Nat) : Str := (T.getD p (("" : Str), 0)).1
def cl (T : TkL) (p : Nat) : Nat := (T.getD p (("" : Str), 0)).2
structure TkOk (T : TkL) : Prop where
  pos : 0 < T.length
  last : ∀ p, p < T.length → tk T p ≠ "" → p + 1 < T.length
  col : ∀ p, cl T p < 2 ^ 30
  len : T.length < 2 ^ 20
  small : ∀ p, (tk T p).length ≤ 2 ^ 20

/-! ### readers -/
structure PSt where
  p : Nat
  r : Nat
  l : Nat
abbrev Res (α : Type) := Except Nat (α × PSt)
def kinds : List Str := ["word", "sequence", "either", "again"]
def lettersM (T : TkL) : Nat → List Str → PSt → Res (List Str)
  | 0, _, _ => .error 0
  | f + 1, acc, s => if tk T s.p = ")" then .ok (acc, s) else
    if (letterM (tk T s.p) && decide (s.l + 1 ≤ 12)) = true then lettersM T f (acc ++ [tk T s.p]) ⟨s.p + 1, s.r, s.l + 1⟩ else .error (cl T s.p)
def partsM (T : TkL) (rd : PSt → Res PyData) : Nat → List PyData → PSt → Res (List PyData)
  | 0, _, _ => .error 0
  | f + 1, acc, s => if tk T s.p = ")" then .ok (acc, s) else
    if acc = [] then (match rd s with
      | .error c => .error c
      | .ok (d, s') => partsM T rd f (acc ++ [d]) s')
    else if tk T s.p = "," then (match rd ⟨s.p + 1, s.r, s.l⟩ with
      | .error c => .error c
      | .ok (d, s') => partsM T rd f (acc ++ [d]) s')
    else .error (cl T s.p)
def tupS (ls : List Str) : PyData := .tuple (ls.map .str)
def tupI (ns : List Nat) : PyData := .tuple (ns.map fun n => .int (n : Nat))
def bodyM (T : TkL) (rd : PSt → Res PyData) (kind : Str) (s : PSt) : Res PyData :=
  if kind = "word" then (match lettersM T T.length [] s with
    | .error c => .error c
    | .ok (ls, s') => .ok (tupS ls, s'))
  else if kind = "again" then rd s
  else (match partsM T rd T.length [] s with
    | .error c => .error c
    | .ok (ds, s') => .ok (.tuple ds, s'))
def ruleM (T : TkL) : Nat → PSt → Res PyData
  | 0, s => .error (cl T s.p)
  | k + 1, s => if (kinds.contains (tk T s.p) && decide (s.r + 1 ≤ 20)) = true then
      if tk T (s.p + 1) = "(" then (match bodyM T (ruleM T k) (tk T s.p) ⟨s.p + 2, s.r + 1, s.l⟩ with
        | .error c => .error c
        | .ok (d, s') => if tk T s'.p = ")" then .ok (.tuple [.str (tk T s.p), d], ⟨s'.p + 1, s'.r, s'.l⟩) else .error (cl T s'.p))
      else .error (cl T (s.p + 1))
    else .error (cl T s.p)
/-- a rule and the line's end -/
def wholeM (T : TkL) (p : Nat) : Except Nat PyData := match ruleM T 8 ⟨p, 0, 0⟩ with
  | .error c => .error c
  | .ok (d, s) => if tk T s.p = "" then .ok d else .error (cl T s.p)
def wordM (T : TkL) : Nat → List Str → Nat → Except Nat (List Str)
  | 0, _, _ => .error 0
  | f + 1, acc, p => if tk T p = "" then .ok acc else if (letterM (tk T p) && decide (acc.length < 30)) = true then wordM T f (acc ++ [tk T p]) (p + 1) else .error (cl T p)
def posM (T : TkL) : Nat → List Nat → Nat → Except Nat (List Nat)
  | 0, _, _ => .error 0
  | f + 1, acc, p => if tk T p = "" then .ok acc else match figsM (tk T p) 30 with
    | some n => posM T f (acc ++ [n]) (p + 1)
    | none => .error (cl T p)
def nameD (x : Str) : Option PyData := match figsM x 9999 with
  | some n => some (.int (n : Nat))
  | none => if nameM x = true then some (.str x) else none
/-- a step's three words -/
def stepM (T : TkL) (p : Nat) : Except Nat PyData := match figsM (tk T p) 30 with
  | none => .error (cl T p)
  | some a => match figsM (tk T (p + 1)) 30 with
    | none => .error (cl T (p + 1))
    | some b => match nameD (tk T (p + 2)) with
      | none => .error (cl T (p + 2))
      | some d => .ok (.tuple [.int (a : Nat), .int (b : Nat), d])
def routeM (T : TkL) : Nat → List PyData → Nat → Except Nat (List PyData)
  | 0, _, _ => .error 0
  | f + 1, acc, p => if tk T p = "" then .ok acc else
    if acc = [] then (match stepM T p with
      | .error c => .error c
      | .ok d => routeM T f (acc ++ [d]) (p + 3))
    else if tk T p = "," then (if acc.length = 60 then .error (cl T (p + 1)) else match stepM T (p + 1) with
      | .error c => .error c
      | .ok d => routeM T f (acc ++ [d]) (p + 4))
    else .error (cl T p)

/-! ### lines -/
abbrev Lns := List (TkL × Nat)
def linesOf : Nat → List Str → Lns
  | _, [] => []
  | i, x :: r => (toks x, i + 1) :: linesOf (i + 1) r
def fullL (l : Lns) : Lns := l.filter fun q => !decide (tk q.1 0 = "")
def linesM (x : Str) : Lns := fullL (linesOf 0 (Txt.split x "\n"))
def bookM : Lns → List (Str × PyData) → Except (Nat × Nat) (List (Str × PyData))
  | [], acc => .ok acc
  | (T, n) :: r, acc => if (nameM (tk T 0) && !decide (tk T 0 ∈ acc.map (·.1)) && decide (acc.length < 8)) = true then
      if tk T 1 = "=" then (match wholeM T 2 with
        | .error c => .error (n, c)
        | .ok d => bookM r (acc ++ [(tk T 0, d)]))
      else .error (n, cl T 1)
    else .error (n, cl T 0)
def placesM (T : TkL) : Nat → List Nat → Nat → Except Nat (List Nat)
  | 0, _, _ => .error 0
  | f + 1, acc, p => if tk T p = "" then .ok acc else match figsM (tk T p) 1000000 with
    | none => .error (cl T p)
    | some n => if (acc = [] ∨ acc.getD (acc.length - 1) 0 < n) ∧ acc.length < 64 then placesM T f (acc ++ [n]) (p + 1) else .error (cl T p)
def placeM (ps : List Nat) (x : Str) : Option Nat := match figsM x 1000000 with
  | none => none
  | some n => if n ∈ ps then some n else none
def roadM (ps : List Nat) (T : TkL) : Except Nat PyData :=
  if letterM (tk T 1) = true then match placeM ps (tk T 2) with
    | none => .error (cl T 2)
    | some a => match placeM ps (tk T 3) with
      | none => .error (cl T 3)
      | some b => match figsM (tk T 4) 1000000 with
        | none => .error (cl T 4)
        | some c => if tk T 5 = "" then .ok (.tuple [.str (tk T 1), .int (a : Nat), .int (b : Nat), .int (c : Nat)]) else .error (cl T 5)
  else .error (cl T 1)
def roadsM (ps : List Nat) : Lns → List PyData → Except (Nat × Nat) (List PyData)
  | [], acc => .ok acc
  | (T, n) :: r, acc => if tk T 0 = "road" ∧ acc.length < 200 then (match roadM ps T with
      | .error c => .error (n, c)
      | .ok d => roadsM ps r (acc ++ [d]))
    else .error (n, cl T 0)
def sortD (ds : List PyData) : List PyData := ds.mergeSort (dataLe false id)
def netM (x : Str) : Except (Nat × Nat) PyData := match linesM x with
  | [] => .error ((Txt.split x "\n").length + 1, 1)
  | (T, n) :: r => if tk T 0 = "places" then (match placesM T T.length [] 1 with
      | .error c => .error (n, c)
      | .ok ps => match roadsM ps r [] with
        | .error e => .error e
        | .ok ds => .ok (.tuple [tupI ps, .tuple (sortD ds)]))
    else .error (n, cl T 0)

/-! ### what each of the six ways reads -/
def at1 (r : Except Nat PyData) : Except (Nat × Nat) PyData := match r with
  | .error c => .error (1, c)
  | .ok d => .ok d
def dicD (nds : List (Str × PyData)) : PyData := .dict (nds.map fun p => (PyData.str p.1, p.2))
def rdRule (x : Str) : Except Nat PyData := wholeM (toks x) 0
def rdWord (x : Str) : Except Nat PyData := match wordM (toks x) (toks x).length [] 0 with
  | .error c => .error c
  | .ok ls => .ok (tupS ls)
def rdPos (x : Str) : Except Nat PyData := match posM (toks x) (toks x).length [] 0 with
  | .error c => .error c
  | .ok ns => .ok (tupI ns)
def rdRoute (x : Str) : Except Nat PyData := match routeM (toks x) (toks x).length [] 0 with
  | .error c => .error c
  | .ok ds => .ok (.tuple ds)
def rdBook (x : Str) : Except (Nat × Nat) PyData := match bookM (linesM x) [] with
  | .error e => .error e
  | .ok nds => .ok (dicD nds)
def readM (way x : Str) : Except (Nat × Nat) PyData :=
  if way = "book" then rdBook x else if way = "net" then netM x else if way = "rule" then at1 (rdRule x) else if way = "route" then at1 (rdRoute x)
  else if way = "word" then at1 (rdWord x) else at1 (rdPos x)
def probD (n c : Nat) : PyData := .tuple [.str "syntax", .int (n : Nat), .int (c : Nat)]
def outD (r : Except (Nat × Nat) PyData) : PyData := match r with
  | .error e => probD e.1 e.2
  | .ok d => d

/-! ### of tokens -/
theorem endT_gt (L : List Nat) (i : Nat) : i < endT L i := by
  unfold endT
  omega
theorem endT_le (L : List Nat) {i : Nat} (h : i < L.length) : endT L i ≤ L.length := by
  unfold endT
  have e : ((L.drop (i + 1)).takeWhile isSg).length ≤ (L.drop (i + 1)).length := (List.takeWhile_sublist _).length_le
  rw [List.length_drop] at e
  split <;> omega
theorem lexF_mem {L : List Nat} : ∀ {f i : Nat} {q : Str × Nat}, q ∈ lexF L f i → q.1 ≠ "" ∧ q.2 ≤ L.length ∧ q.1.length ≤ L.length
  | 0, _, _, h => by simp [lexF] at h
  | f + 1, i, q, h => by
    unfold lexF at h
    split at h
    · next hi =>
      rcases List.mem_append.mp h with h | h
      · split at h
        · simp at h
        · simp at h
          subst h
          refine ⟨fun e => ?_, hi, ?_⟩
          rotate_left
          · show ((L.drop i).take (endT L i - i)).toArray.size ≤ _
            rw [List.size_toArray, List.length_take, List.length_drop]
            omega
          have e2 : (mkS ((L.drop i).take (endT L i - i))).length = 0 := by
            show _ = (("" : Str)).length
            rw [← e]
          have e3 : ((L.drop i).take (endT L i - i)).length = 0 := by
            simpa [mkS, Str.length] using e2
          rw [List.length_take, List.length_drop] at e3
          have := endT_gt L i
          omega
      · exact lexF_mem h
    · simp at h
theorem lexF_len {L : List Nat} : ∀ {f i : Nat}, (lexF L f i).length ≤ f
  | 0, _ => by simp [lexF]
  | f + 1, i => by
    unfold lexF
    split
    · rw [List.length_append]
      have := lexF_len (L := L) (f := f) (i := endT L i)
      split <;> simp <;> omega
    · simp
theorem toks_ok {x : Str} (h : x.length < 2 ^ 19) : TkOk (toks x) := by
  have hl : (tl x).length = x.length := (len_tl x).symm
  have l1 := lexF_len (L := tl x) (f := x.length) (i := 0)
  have lt : (toks x).length = (lexF (tl x) x.length 0).length + 1 := by
    unfold toks
    rw [List.length_append]
    rfl
  refine ⟨by rw [lt]; omega, fun p hp hn => ?_, fun p => ?_, by rw [lt]; omega, fun p => ?_⟩
  · rcases Nat.lt_or_ge (p + 1) (toks x).length with z | z
    · exact z
    · exfalso
      apply hn
      have e : p = (lexF (tl x) x.length 0).length := by omega
      unfold tk toks
      rw [List.getD_eq_getElem?_getD, List.getElem?_append_right (by omega), e]
      simp
  · unfold cl
    rw [List.getD_eq_getElem?_getD]
    cases e : (toks x)[p]? with
    | none =>
      show 0 < _
      decide
    | some q =>
      show q.2 < _
      have hm : q ∈ toks x := List.mem_of_getElem? e
      unfold toks at hm
      rcases List.mem_append.mp hm with hm | hm
      · have := (lexF_mem hm).2.1
        rw [hl] at this
        omega
      · simp at hm
        rw [hm]
        show x.length + 1 < _
        omega
  · unfold tk
    rw [List.getD_eq_getElem?_getD]
    cases e : (toks x)[p]? with
    | none =>
      show 0 ≤ _
      decide
    | some q =>
      show q.1.length ≤ _
      have hm : q ∈ toks x := List.mem_of_getElem? e
      unfold toks at hm
      rcases List.mem_append.mp hm with hm | hm
      · have := (lexF_mem hm).2.2
        rw [hl] at this
        omega
      · simp at hm
        rw [hm]
        show 0 ≤ _
        decide
theorem figsM_nil (n : Nat) : figsM "" n = none := rfl
theorem figsM_le {x : Str} {m n : Nat} (h : figsM x m = some n) : n ≤ m := by
  unfold figsM at h
  split at h
  · split at h
    · cases h
    · split at h
      · cases h
        assumption
      · cases h
  · cases h
theorem nameM_nil : nameM "" = false := rfl
theorem nameD_nil : nameD "" = none := rfl
theorem letterM_nil : letterM "" = false := by
  decide +kernel
end T65
end
section
/-! Mb: laws of the words: figures, letters by split and by partition. -/
namespace T65
open PySem PySem.W TL NumText

theorem fg_iff (c : Nat) : isFg c = true ↔ 48 ≤ c ∧ c ≤ 57 := by
  unfold isFg
  rw [decide_eq_true_eq, show zFig.cps.toList = [48, 49, 50, 51, 52, 53, 54, 55, 56, 57] by decide +kernel]
  simp
  omega
theorem sm_iff (c : Nat) : isSm c = true ↔ 97 ≤ c ∧ c ≤ 122 := by
  unfold isSm
  rw [decide_eq_true_eq, show zSmall.cps.toList = [97, 98, 99, 100, 101, 102, 103, 104, 105, 106, 107, 108, 109, 110, 111, 112, 113, 114, 115, 116, 117, 118, 119, 120, 121, 122] by decide +kernel]
  simp
  omega
theorem sg_iff (c : Nat) : isSg c = true ↔ (97 ≤ c ∧ c ≤ 122) ∨ (48 ≤ c ∧ c ≤ 57) ∨ c = 64 := by
  unfold isSg
  rw [decide_eq_true_eq, show zSigns.cps.toList = [97, 98, 99, 100, 101, 102, 103, 104, 105, 106, 107, 108, 109, 110, 111, 112, 113, 114, 115, 116, 117, 118, 119, 120, 121, 122, 48, 49, 50, 51, 52, 53, 54, 55, 56, 57, 64] by decide +kernel]
  simp
  omega
theorem all_fg {l : List Nat} (h : l.all isFg = true) : AllDigits l := fun c hc => (fg_iff c).mp (List.all_eq_true.mp h c hc)
theorem intText_fg {x : Str} (h : (tl x).all isFg = true) (h1 : 1 ≤ x.length) (h2 : x.length ≤ 4300) : PySem.intText? x = some ((digitsVal (tl x) : Nat) : Int) :=
  intText_digits (all_fg h) (fun e => by rw [len_tl, show tl x = [] from e] at h1; simp at h1) h2
theorem foldl_ge : ∀ (l : List Nat) (a : Nat), a * 10 ^ l.length ≤ l.foldl (fun acc c => acc * 10 + (c - 48)) a
  | [], a => by simp
  | c :: l, a => by
    rw [List.foldl_cons, List.length_cons, Nat.pow_succ]
    refine Nat.le_trans ?_ (foldl_ge l (a * 10 + (c - 48)))
    rw [← Nat.mul_assoc, Nat.mul_right_comm]
    exact Nat.mul_le_mul_right _ (Nat.le_add_right _ _)
theorem foldl_lt : ∀ (l : List Nat) (a : Nat), AllDigits l → l.foldl (fun acc c => acc * 10 + (c - 48)) a < (a + 1) * 10 ^ l.length
  | [], a, _ => by simp
  | c :: l, a, h => by
    rw [List.foldl_cons, List.length_cons, Nat.pow_succ]
    refine Nat.lt_of_lt_of_le (foldl_lt l (a * 10 + (c - 48)) h.tail) ?_
    have := h.head
    rw [Nat.mul_comm (10 ^ l.length) 10, ← Nat.mul_assoc]
    exact Nat.mul_le_mul_right _ (by omega)
theorem str0 (x : Str) : x = "0" ↔ tl x = [48] := by
  constructor
  · intro e
    rw [e]
    decide +kernel
  · intro e
    exact ext_tl (e.trans (by decide +kernel))
/-- a number of more figures than m has is above m -/
theorem figs_long {x : Str} {m d : Nat} (hm : m < 10 ^ d) (hd : 1 ≤ d) (hl : d < x.length) : figsM x m = none := by
  unfold figsM
  split
  · next h =>
    simp only [Bool.and_eq_true, decide_eq_true_eq] at h
    split
    · rfl
    · next h2 =>
      rw [if_neg]
      cases e : tl x with
      | nil => rw [len_tl, e] at hl; simp at hl
      | cons c cs =>
        have hx : x ≠ "0" := fun z => by
          rw [str0] at z
          rw [len_tl, z] at hl
          simp at hl
          omega
        have hc : c ≠ 48 := fun z => h2 ⟨by rw [e, z]; rfl, hx⟩
        have ad := all_fg h.2
        rw [e] at ad
        have h3 := ad.head
        have h4 := foldl_ge cs (0 * 10 + (c - 48))
        unfold digitsVal
        rw [List.foldl_cons]
        have h5 : 10 ^ d ≤ 10 ^ cs.length := Nat.pow_le_pow_right (by decide) (by
          rw [len_tl, e] at hl
          simp at hl
          omega)
        have h6 : 1 * 10 ^ cs.length ≤ (0 * 10 + (c - 48)) * 10 ^ cs.length := Nat.mul_le_mul_right _ (by omega)
        omega
  · rfl
theorem figs_no {x : Str} {m : Nat} (h : ¬ ((1 ≤ x.length ∧ x.length ≤ 8) ∧ (tl x).all isFg = true)) : figsM x m = none := by
  unfold figsM
  rw [if_neg]
  simpa only [Bool.and_eq_true, decide_eq_true_eq] using h
theorem figs_yes {x : Str} {m : Nat} (h1 : 1 ≤ x.length) (h2 : x.length ≤ 8) (h : (tl x).all isFg = true) :
    figsM x m = if (tl x)[0]? = some 48 ∧ x ≠ "0" then none else if digitsVal (tl x) ≤ m then some (digitsVal (tl x)) else none := by
  unfold figsM
  rw [if_pos]
  simp only [Bool.and_eq_true, decide_eq_true_eq]
  exact ⟨⟨h1, h2⟩, h⟩
/-- letters, by the parts that split at the sign gives -/
def ageL (x : Str) : Bool := decide (1 ≤ x.length) && decide (x.length ≤ 4) && (tl x).all isFg && (x == ("0" : Str) || !decide ((tl x)[0]? = some 48))
theorem age_eq (x : Str) : (figsM x 9999).isSome = ageL x := by
  unfold ageL
  by_cases h : ((1 ≤ x.length ∧ x.length ≤ 4) ∧ (tl x).all isFg = true)
  · obtain ⟨⟨h1, h2⟩, h3⟩ := h
    rw [figs_yes h1 (by omega) h3, decide_eq_true h1, decide_eq_true h2, h3]
    have hv : digitsVal (tl x) ≤ 9999 := by
      have a := foldl_lt (tl x) 0 (all_fg h3)
      have b : 10 ^ (tl x).length ≤ 10 ^ 4 := Nat.pow_le_pow_right (by decide) (by rw [← len_tl]; exact h2)
      unfold digitsVal
      omega
    rw [if_pos hv]
    by_cases e : x = "0"
    · rw [if_neg (fun z => z.2 e), e]
      rfl
    · by_cases e2 : (tl x)[0]? = some 48
      · rw [if_pos ⟨e2, e⟩]
        simp [e, e2]
      · rw [if_neg (fun z => e2 z.1)]
        rw [decide_eq_false e2]
        simp
  · have hn : (decide (1 ≤ x.length) && decide (x.length ≤ 4) && (tl x).all isFg) = false := by
      rw [← Bool.not_eq_true]
      simpa only [Bool.and_eq_true, decide_eq_true_eq] using h
    rw [hn]
    by_cases h4 : 4 < x.length
    · rw [figs_long (d := 4) (by decide) (by decide) h4]
      rfl
    · rw [figs_no (fun z => h ⟨⟨z.1.1, by omega⟩, z.2⟩)]
      rfl
theorem zAt : tl ("@" : Str) = [64] := by decide +kernel
theorem first_of {s : Nat} : ∀ {l : List Nat}, s ∈ l → ∃ a b, l = a ++ s :: b ∧ s ∉ a
  | [], h => by simp at h
  | c :: l, h => by
    by_cases e : c = s
    · exact ⟨[], l, by rw [e]; rfl, by simp⟩
    · obtain ⟨a, b, h1, h2⟩ := first_of (l := l) (by
        rcases List.mem_cons.mp h with z | z
        · exact absurd z.symm e
        · exact z)
      exact ⟨c :: a, b, by rw [h1]; rfl, fun z => by
        rcases List.mem_cons.mp z with z | z
        · exact e z.symm
        · exact h2 z⟩
theorem spl_len {S : List Nat} : ∀ (l acc : List Nat) (k : Nat), 1 ≤ (spl S k acc l).length
  | [], acc, k => by
    rw [spl_nil]
    simp
  | c :: l, acc, 0 => by
    unfold spl
    split
    · simp
    · exact spl_len l _ 0
  | c :: l, acc, k + 1 => by
    unfold spl
    exact spl_len l acc k
/-- what split at the sign gives -/
theorem split_at (x : Str) : (64 ∉ tl x ∧ Txt.split x "@" = [x] ∧ Txt.partition x "@" = (x, Str.empty, Str.empty)) ∨
    ∃ a b : Str, tl x = tl a ++ 64 :: tl b ∧ 64 ∉ tl a ∧ Txt.partition x "@" = (a, ("@" : Str), b) ∧
      ((64 ∉ tl b ∧ Txt.split x "@" = [a, b]) ∨ (64 ∈ tl b ∧ 2 < (Txt.split x "@").length)) := by
  have hy : tl ("@" : Str) ≠ [] := by rw [zAt]; simp
  have hk : ¬ Builtin.Str.strKind x < Builtin.Str.strKind ("@" : Str) := kind_ok (by decide +kernel)
  have hs := split_spl x "@" hy hk
  have hp := partition_par x "@" hy
  rw [zAt] at hs hp
  by_cases h : 64 ∈ tl x
  · right
    obtain ⟨a, b, e, na⟩ := first_of h
    have e2 : tl x = a ++ ([64] ++ b) := e
    rw [e2, par_part1 na, List.nil_append] at hp
    rw [e2, spl_part1 na, List.nil_append] at hs
    refine ⟨mkS a, mkS b, by rw [e]; rfl, na, hp, ?_⟩
    by_cases hb : 64 ∈ b
    · right
      refine ⟨hb, ?_⟩
      obtain ⟨a2, b2, e3, na2⟩ := first_of hb
      have e4 : b = a2 ++ ([64] ++ b2) := e3
      rw [e4, spl_part1 na2] at hs
      have := congrArg List.length hs
      rw [List.length_map, List.length_cons, List.length_cons] at this
      have := spl_len (S := [64]) b2 [] 0
      omega
    · left
      refine ⟨hb, ?_⟩
      rw [spl_last1 hb] at hs
      exact map_tl_inj (by rw [hs]; rfl)
  · left
    refine ⟨h, ?_, ?_⟩
    · rw [spl_last1 h, List.nil_append] at hs
      exact map_tl_inj (by rw [hs]; rfl)
    · rw [par_none1 h] at hp
      exact hp
end T65
end
section
/-! Mc: the readers go forward. -/
namespace T65
open PySem PySem.W TL
theorem lettersM_adv {T : TkL} : ∀ {f : Nat} {acc : List Str} {s s' : PSt} {ls : List Str}, lettersM T f acc s = .ok (ls, s') → s.p ≤ s'.p
  | 0, _, _, _, _, h => by cases h
  | f + 1, acc, s, s', ls, h => by
    unfold lettersM at h
    split at h
    · cases h
      exact Nat.le_refl _
    · split at h
      · have := lettersM_adv h
        exact Nat.le_trans (Nat.le_succ _) this
      · cases h
theorem partsM_adv {T : TkL} {rd : PSt → Res PyData} (hr : ∀ s d s', rd s = .ok (d, s') → s.p < s'.p) : ∀ {f : Nat} {acc : List PyData} {s s' : PSt} {ds : List PyData}, partsM T rd f acc s = .ok (ds, s') → s.p ≤ s'.p
  | 0, _, _, _, _, h => by cases h
  | f + 1, acc, s, s', ds, h => by
    unfold partsM at h
    split at h
    · cases h
      exact Nat.le_refl _
    · split at h
      · split at h
        · cases h
        · next e =>
          have h1 := hr _ _ _ e
          have h2 := partsM_adv hr h
          omega
      · split at h
        · split at h
          · cases h
          · next e =>
            have h1 := hr _ _ _ e
            have h2 := partsM_adv hr h
            have : s.p + 1 < _ := h1
            omega
        · cases h
theorem ruleM_adv {T : TkL} : ∀ {k : Nat} {s s' : PSt} {d : PyData}, ruleM T k s = .ok (d, s') → s.p < s'.p
  | 0, s, s', d, h => by cases h
  | k + 1, s, s', d, h => by
    unfold ruleM at h
    split at h
    · split at h
      · split at h
        · cases h
        · next d5 s5 e =>
          split at h
          · cases h
            show s.p < s5.p + 1
            unfold bodyM at e
            split at e
            · split at e
              · cases e
              · next e2 =>
                cases e
                have := lettersM_adv e2
                have : s.p + 2 ≤ _ := this
                omega
            · split at e
              · have := ruleM_adv e
                have : s.p + 2 < _ := this
                omega
              · split at e
                · cases e
                · next e2 =>
                  cases e
                  have := partsM_adv (fun s d s' h => ruleM_adv h) e2
                  have : s.p + 2 ≤ _ := this
                  omega
          · cases h
      · cases h
    · cases h
end T65
end
section
/-! Md: lines. -/
namespace T65
open PySem PySem.W TL
theorem linesOf_app (x : Str) : ∀ (l : List Str) (k : Nat), linesOf k (l ++ [x]) = linesOf k l ++ [(toks x, k + l.length + 1)]
  | [], k => rfl
  | y :: r, k => by
    rw [List.cons_append]
    show (toks y, k + 1) :: linesOf (k + 1) (r ++ [x]) = (toks y, k + 1) :: linesOf (k + 1) r ++ [(toks x, k + (r.length + 1) + 1)]
    rw [linesOf_app x r (k + 1), show k + 1 + r.length + 1 = k + (r.length + 1) + 1 by omega]
    rfl
theorem spl_bound {S : List Nat} : ∀ (l acc : List Nat) (k : Nat), (∀ p ∈ spl S k acc l, p.length ≤ acc.length + l.length) ∧ (spl S k acc l).length ≤ l.length + 1
  | [], acc, k => by
    rw [spl_nil]
    simp
  | c :: l, acc, 0 => by
    unfold spl
    split
    · obtain ⟨h1, h2⟩ := spl_bound (S := S) l [] (S.length - 1)
      refine ⟨fun p hp => ?_, by rw [List.length_cons, List.length_cons]; omega⟩
      rcases List.mem_cons.mp hp with e | hp
      · rw [e]
        omega
      · have := h1 p hp
        simp at this ⊢
        omega
    · obtain ⟨h1, h2⟩ := spl_bound (S := S) l (acc ++ [c]) 0
      refine ⟨fun p hp => ?_, by rw [List.length_cons]; omega⟩
      have := h1 p hp
      rw [List.length_append] at this
      simp at this ⊢
      omega
  | c :: l, acc, k + 1 => by
    unfold spl
    obtain ⟨h1, h2⟩ := spl_bound (S := S) l acc k
    refine ⟨fun p hp => ?_, by rw [List.length_cons]; omega⟩
    have := h1 p hp
    simp
    omega
theorem zNl : tl ("\n" : Str) = [10] := by decide +kernel
theorem split_nl (x : Str) : (Txt.split x "\n").map tl = spl [10] 0 [] (tl x) := by
  have h := split_spl x "\n" (by rw [zNl]; simp) (kind_ok (by decide +kernel))
  rw [zNl] at h
  exact h
theorem split_small (x : Str) : (∀ y ∈ Txt.split x "\n", y.length ≤ x.length) ∧ (Txt.split x "\n").length ≤ x.length + 1 := by
  have h := split_nl x
  obtain ⟨h1, h2⟩ := spl_bound (S := [10]) (tl x) [] 0
  rw [← h] at h1 h2
  refine ⟨fun y hy => ?_, ?_⟩
  · have := h1 (tl y) (List.mem_map_of_mem hy)
    rw [len_tl, len_tl]
    simpa using this
  · rw [List.length_map] at h2
    rw [len_tl]
    exact h2
end T65
end
section
/-! XH: the module's facts by names. -/
namespace T65
open PySem PySem.Spec PyProof.Rows L2
abbrev KonI (mg : Str → Option Value) (x : Str) (i : Int) : Prop := ∃ u, mg x = some u ∧ RelV (.int i) u
abbrev KonS (mg : Str → Option Value) (x : Str) (z : Str) : Prop := ∃ u, mg x = some u ∧ RelV (.str z) u
structure G65 (K : PySem.W.Frag) (mg : Str → Option Value) (C S : Addr) : Prop where
  len : mg "len" = none
  isinstance : mg "isinstance" = none
  str_ : mg "str" = none
  all : mg "all" = none
  int : mg "int" = none
  tuple : mg "tuple" = none
  enumerate : mg "enumerate" = none
  sorted : mg "sorted" = none
  abs : mg "abs" = none
  range : mg "range" = none
  repr : mg "repr" = none
  list : mg "list" = none
  max : mg "max" = none
  dict : mg "dict" = none
  set : mg "set" = none
  SMALL : KonS mg "SMALL" zSmall
  FIGURES : KonS mg "FIGURES" zFig
  SIGNS : KonS mg "SIGNS" zSigns
  MOST_SIGNS : KonI mg "MOST_SIGNS" 8
  MOST_AGE : KonI mg "MOST_AGE" 9999
  MOST_LETTERS : KonI mg "MOST_LETTERS" 30
  MAX_PLACES : KonI mg "MAX_PLACES" 64
  MAX_PLACE : KonI mg "MAX_PLACE" 1000000
  MAX_ROADS : KonI mg "MAX_ROADS" 200
  MAX_COST : KonI mg "MAX_COST" 1000000
  MOST_RULES : KonI mg "MOST_RULES" 20
  MOST_LEVELS : KonI mg "MOST_LEVELS" 8
  MOST_IN_ALL : KonI mg "MOST_IN_ALL" 12
  MOST_STEPS : KonI mg "MOST_STEPS" 60
  MOST_NUMBER : KonI mg "MOST_NUMBER" 9999
  MOST_NAMES : KonI mg "MOST_NAMES" 8
  Line : mg "Line" = some (.ref C)
  cls : Cls K C
  tokens : NoAttr K C "tokens"
  number : NoAttr K C "number"
  place : NoAttr K C "place"
  rules : NoAttr K C "rules"
  letters : NoAttr K C "letters"
  SyntaxProblem : mg "SyntaxProblem" = some (.ref S)
theorem hu64 {A : Around} {k : Nat} (hr : Room k A) : A.units + 64 < cLine := hr.units
section
variable {P : Program} {w : World} {K : PySem.W.Frag} {mg : Str → Option Value} {base : Heap} {N : List Str} {qual : Str} {scope : Scope} {f : Addr} {cd : Value} {A : Around} {outer : List Env} {s : Shared} {H : Hp} {E : XK}
/-- a callee's exceptions go on to the caller -/
theorem tkp : Passes (L2.CX P w) (cxOf (L2.CX P w) P w K mg base N qual scope f cd A outer s H E) E := passes_call (takes_of rfl rfl rfl rfl) fun _ _ _ _ z => z
end
/-- the attributes of a Line -/
abbrev lnF (t n p r l : V) : List (Str × V) := [("tokens", t), ("number", n), ("place", p), ("rules", r), ("letters", l)]
theorem putF_place (t n p r l q : V) : putF "place" q (lnF t n p r l) = lnF t n q r l := by
  simp [putF, show (("tokens" : Str) = "place") = False by decide, show (("number" : Str) = "place") = False by decide]
theorem putF_rules (t n p r l q : V) : putF "rules" q (lnF t n p r l) = lnF t n p q l := by
  simp [putF, show (("tokens" : Str) = "rules") = False by decide, show (("number" : Str) = "rules") = False by decide, show (("place" : Str) = "rules") = False by decide]
theorem putF_letters (t n p r l q : V) : putF "letters" q (lnF t n p r l) = lnF t n p r q := by
  simp [putF, show (("tokens" : Str) = "letters") = False by decide, show (("number" : Str) = "letters") = False by decide, show (("place" : Str) = "letters") = False by decide, show (("rules" : Str) = "letters") = False by decide]
theorem putF_made (t n p r l : V) : putF "letters" l (putF "rules" r (putF "place" p (putF "number" n (putF "tokens" t [])))) = lnF t n p r l := by
  simp [putF, show (("tokens" : Str) = "letters") = False by decide, show (("number" : Str) = "letters") = False by decide, show (("place" : Str) = "letters") = False by decide, show (("rules" : Str) = "letters") = False by decide, show (("tokens" : Str) = "rules") = False by decide, show (("number" : Str) = "rules") = False by decide, show (("place" : Str) = "rules") = False by decide, show (("tokens" : Str) = "place") = False by decide, show (("number" : Str) = "place") = False by decide, show (("tokens" : Str) = "number") = False by decide]
end T65
end
section
/-! W1: names, figures, letters. -/
namespace T65
open PySem PySem.Spec PyProof.Rows L2
abbrev Fn (K : PySem.W.Frag) (x : Str) (st : Stmt) (f : Addr) (fd : FuncData) : Prop := FunD K x x (defArgs st) (defBody st) (defScope st) [] [] f fd
def optI : Option Nat → V
  | none => .non
  | some n => .int (n : Nat)
def spName : Sp := fun vs H Q _ => ∃ x : Str, vs = [.str x] ∧ x.length ≤ 2 ^ 20 ∧ ∀ H', Kp [] H H' → Q (.bl (nameM x)) H'
def Most (m : Nat) : Prop := m = 30 ∨ m = 9999 ∨ m = 1000000
def spFigs : Sp := fun vs H Q _ => ∃ (x : Str) (m : Nat), vs = [.str x, .int m] ∧ x.length ≤ 2 ^ 20 ∧ Most m ∧ ∀ H', Kp [] H H' → Q (optI (figsM x m)) H'
def spLetter : Sp := fun vs H Q _ => ∃ x : Str, vs = [.str x] ∧ x.length ≤ 2 ^ 20 ∧ ∀ H', Kp [] H H' → Q (.bl (letterM x)) H'
theorem len20 {n : Nat} (h : n ≤ 2 ^ 20) : n ≤ sizeLine := Nat.le_trans h (by decide)
theorem kStr {K : PySem.W.Frag} : PySem.W.kitOne K (.type "str") (.type "str") = some true := kit_ty (by decide +kernel)
/-- [.. for c in x]: a bool sign by sign -/
theorem lc_signs {H1 : Hp} {D : Addr} {te : TE} {vs : List Nat} {k : Nat} {σ : L2.St} {Qd : Hp → Prop} (x : Str) (p : Nat → Bool) (hl : x.length ≤ 2 ^ 20) (hD : H1 D = none)
    (hs : ∀ (c : Nat) (H : Hp) (Q : VK), Q (.bl (p c)) H → wipe ((wipe σ vs).set k (some (.str ⟨#[c]⟩))) vs = wipe σ vs ∧ te ((wipe σ vs).set k (some (.str ⟨#[c]⟩))) H Q)
    (hd : ∀ H, Kp [] H1 H → H D = some (.lst ((x.cps.toList.map p).map V.bl)) → Qd H) :
    ∃ W : Nat → Nat → Hp → Prop, (∃ m, W 0 m (upd H1 D (.lst []))) ∧ ∀ i m H, W i m H →
      ((Its x).stop i H ∧ Qd H) ∨ ((Its x).go i H ∧ ∃ Nx : Hp → Prop, (∀ H', Nx H' → ∃ m', m' < m ∧ W (i + 1) m' H') ∧ ∀ v H', (Its x).yld i H v H' → gName k v (wipe σ vs) H' fun σ2 H2 => wipe σ2 vs = wipe σ vs ∧ tYes σ2 H2 fun b H3 =>
        if b = true then te σ2 H3 fun y H4 => ∃ acc, H4 D = some (.lst acc) ∧ acc.length < sizeLine ∧ Nx (upd H4 D (.lst (acc ++ [y]))) else Nx H3) := by
  have hz : x.cps.size ≤ sizeLine := len20 hl
  refine lc_by x.cps.size (fun i H => Kp [] H1 H ∧ H D = some (.lst (((x.cps.toList.take i).map p).map V.bl))) ⟨(Kp.refl [] H1).new hD _, upd_same⟩ (fun i H hi _ => hi) (fun H _ => Nat.le_refl _) (fun i v H H' hi hP hy => ?_) (fun H hP => ?_)
  · obtain ⟨hk, hd1⟩ := hP
    obtain ⟨rfl, c, hc, rfl⟩ := hy
    have hc' : x.cps.toList[i]? = some c := by rw [Array.getElem?_toList]; exact hc
    have z1 : (((x.cps.toList.take i).map p).map V.bl).length < sizeLine := by
      rw [List.length_map, List.length_map, List.length_take]
      exact Nat.lt_of_le_of_lt (Nat.min_le_left _ _) (Nat.lt_of_lt_of_le hi hz)
    have z2 : ((x.cps.toList.take i).map p).map V.bl ++ [V.bl (p c)] = ((x.cps.toList.take (i + 1)).map p).map V.bl := by
      rw [List.take_succ, hc']
      simp
    exact hs c H' _ ⟨_, hd1, z1, hk.upN hD _, by rw [upd_same, z2]⟩
  · refine hd H hP.1 ?_
    rw [hP.2, List.take_of_length_le (by rw [Array.length_toList]; exact Nat.le_refl _)]
theorem ok_is_name {P : Program} {w : World} {K : PySem.W.Frag} {mg : Str → Option Value} {base : Heap} {C S f : Addr} {fd : FuncData} (g : G65 K mg C S) (F : Fn K "is_name" s_is_name f fd) (gF : mg "is_name" = some (.ref f)) : Cal P w K mg base CX0 1 "is_name" p_is_name spName := by
  refine cal_of F gF sc_is_name (fun vs H Q E h => by obtain ⟨x, rfl, _⟩ := h; rfl) (fun cdv A outer s H vs Q E hr h => ⟨_,
      (pss_cons (ps_if (PW.pt (pw_or (pt_not (pt_val (pe_callB call_isi rfl g.isinstance rfl (pa_cons (pv 0) (pa_cons (pe_bltn (v := .ty "str") rfl g.str_ rfl rfl) pa_nil))))) (pw_or1 (pt_not (pt_chain op_le op_le pe_int (pe_callB call_len rfl g.len rfl (pa_cons (pv 0) pa_nil)) (pe_gc g.MOST_SIGNS))))))
        (pss_one (ps_ret pe_bl))
        pss_nil)
      (pss_one (ps_ret (pe_callB (cr_all rfl) rfl g.all rfl (pa_cons (pe_lc rfl sc_is_name.nd (pi_str (pv 0)) (own := [("sign", 1)]) (blkOk_by (by kernel_rfl)) (fun _ _ _ _ _ => (pg_name (i := 1) sc_is_name.nd rfl (by first | exact Or.inl rfl | exact Or.inr rfl))) (fun _ _ _ _ _ => pts_nil) (fun _ _ _ _ _ => (pe_cmpR op_in_sign (pv 1) (pe_gc g.SMALL) (by with_unfolding_all rfl)))) pa_nil))))), ?_⟩) (fun _ _ _ _ _ _ us hl => match us, hl with | [_], _ => rfl)
  obtain ⟨x, rfl, hl, q⟩ := h
  have hsz := len20 hl
  refine ⟨_, rfl, _, _, _, _, true, rfl, .ty "str", .base (.str x), kStr, _, rfl, iteF ?_⟩
  refine ⟨_, rfl, _, _, rfl, ⟨hsz, rfl⟩, _, _, rfl, rfl, _, rfl, ?_⟩
  have no : ¬ (1 ≤ x.length ∧ x.length ≤ 8) → nameM x = false := fun h => by
    unfold nameM
    rw [← Bool.not_eq_true]
    intro z
    simp only [Bool.and_eq_true, decide_eq_true_eq] at z
    exact h z.1
  have kp0 := Kp.refl [] H
  refine ite2 (fun h1 => ?_) (fun h1 => ?_)
  · have h1' : 1 ≤ x.length := by have := of_decide_eq_true h1; omega
    refine ⟨_, _, rfl, rfl, _, rfl, ite2 (fun h2 => ?_) (fun h2 => ?_)⟩
    · have h2' : ¬ x.length ≤ 8 := by simp at h2; omega
      have := q H kp0
      rw [no (fun z => h2' z.2)] at this
      exact this
    · have h2' : x.length ≤ 8 := by simp at h2; omega
      refine ⟨_, rfl, _, rfl, fun D hD => lc_signs x isSm hl hD (fun c H1 Q1 q1 => ⟨rfl, _, rfl, c, _, rfl, rfl, q1⟩) (fun H1 k e => ⟨D, _, rfl, SqL.of e, ?_⟩)⟩
      have := q H1 k
      unfold nameM at this
      rw [decide_eq_true h1', decide_eq_true h2'] at this
      rw [List.all_map]
      exact this
  · have h1' : ¬ 1 ≤ x.length := by simp at h1; omega
    refine ⟨_, rfl, iteT ?_⟩
    have := q H kp0
    rw [no (fun z => h1' z.1)] at this
    exact this

theorem most_facts {m : Nat} (h : Most m) : ∃ d, 1 ≤ d ∧ d ≤ 7 ∧ m < 10 ^ d ∧ (Str.ofString (toString ((m : Nat) : Int))).length = d ∧ ((m : Nat) : Int).natAbs.log2 < 1920 := by
  rcases h with rfl | rfl | rfl
  · exact ⟨2, by decide, by decide, by decide, by decide +kernel, by decide +kernel⟩
  · exact ⟨4, by decide, by decide, by decide, by decide +kernel, by decide +kernel⟩
  · exact ⟨7, by decide, by decide, by decide, by decide +kernel, by decide +kernel⟩
theorem v48 {c : Nat} : (V.str ⟨#[c]⟩ = V.str "0") ↔ c = 48 := by
  constructor
  · intro e
    have e1 : (⟨#[c]⟩ : Str) = "0" := by injection e
    have e2 := congrArg (fun z : Str => z.cps.toList) e1
    rw [show ("0" : Str).cps.toList = [48] by decide +kernel] at e2
    simpa using e2
  · rintro rfl
    rw [show (⟨#[48]⟩ : Str) = "0" by decide +kernel]
theorem at0 {x : Str} (h : 1 ≤ x.length) : ∃ c, x.cps.toList[0]? = some c ∧ atI x.cps.toList 0 = some c := by
  have h' : 0 < x.cps.toList.length := by rw [Array.length_toList]; exact h
  have e : x.cps.toList[0]? = some x.cps.toList[0] := List.getElem?_eq_getElem h'
  exact ⟨_, e, atI_nat (j := 0) e⟩
theorem ok_figures_in {P : Program} {w : World} {K : PySem.W.Frag} {mg : Str → Option Value} {base : Heap} {C S f : Addr} {fd : FuncData} (g : G65 K mg C S) (F : Fn K "figures_in" s_figures_in f fd) (gF : mg "figures_in" = some (.ref f)) : Cal P w K mg base CX0 1 "figures_in" p_figures_in spFigs := by
  refine cal_of F gF sc_figures_in (fun vs H Q E h => by obtain ⟨x, m, rfl, _⟩ := h; rfl) (fun cdv A outer s H vs Q E hr h => ⟨_,
      (pss_cons (ps_if (PW.pt (pw_or (pt_not (pt_chain op_le op_le pe_int (pe_callB call_len rfl g.len rfl (pa_cons (pv 0) pa_nil)) (pe_callB call_len rfl g.len rfl (pa_cons (pe_callTy call_str_int rfl g.str_ rfl (pa_cons (pv 1) pa_nil)) pa_nil)))) (pw_or1 (pt_not (pt_val (pe_callB (cr_all rfl) rfl g.all rfl (pa_cons (pe_lc rfl sc_figures_in.nd (pi_str (pv 0)) (own := [("sign", 2)]) (blkOk_by (by kernel_rfl)) (fun _ _ _ _ _ => (pg_name (i := 2) sc_figures_in.nd rfl (by first | exact Or.inl rfl | exact Or.inr rfl))) (fun _ _ _ _ _ => pts_nil) (fun _ _ _ _ _ => (pe_cmpR op_in_sign (pv 2) (pe_gc g.FIGURES) (by with_unfolding_all rfl)))) pa_nil)))))))
        (pss_one (ps_ret pe_non))
        pss_nil)
      (pss_cons (ps_if (PW.pt (pw_or (PW.pt (pw_and (pt_cmpR op_eq (pe_ix ix_str (pv 0) pe_int (fun _ _ => rfl)) pe_str (nomark _)) (pw_and1 (pt_cmpR op_ne (pv 0) pe_str (nomark _))))) (pw_or1 (pt_cmpR op_gt (pe_callTy call_int_str rfl g.int rfl (pa_cons (pv 0) pa_nil)) (pv 1) (nomark _)))))
        (pss_one (ps_ret pe_non))
        pss_nil)
      (pss_one (ps_ret (pe_callTy call_int_str rfl g.int rfl (pa_cons (pv 0) pa_nil)))))), ?_⟩) (fun _ _ _ _ _ _ us hl => match us, hl with | [_, _], _ => rfl)
  obtain ⟨x, m, rfl, hl, hm, q⟩ := h
  obtain ⟨d, d1, d7, md, dl, lg⟩ := most_facts hm
  have hsz := len20 hl
  have qN : figsM x m = none → ∀ H', Kp [] H H' → Q .non H' := fun e H' k => by
    have := q H' k
    rw [e] at this
    exact this
  have kp0 := Kp.refl [] H
  refine ⟨_, rfl, _, _, rfl, ⟨hsz, rfl⟩, _, _, rfl, rfl, _, rfl, ?_⟩
  refine ite2 (fun h1 => ?_) (fun h1 => ?_)
  · have h1' : 1 ≤ x.length := by have := of_decide_eq_true h1; omega
    refine ⟨_, rfl, _, rfl, lg, _, _, rfl, ⟨by rw [dl, sizeLine_eq]; omega, rfl⟩, _, _, rfl, rfl, _, rfl, ite2 (fun h2 => ?_) (fun h2 => ?_)⟩
    · have h2' : d < x.length := by
        rw [dl] at h2
        simp at h2
        omega
      exact qN (figs_long md d1 h2') H kp0
    · have h2' : x.length ≤ d := by
        rw [dl] at h2
        simp at h2
        omega
      refine ⟨_, rfl, _, rfl, fun D hD => lc_signs x isFg hl hD (fun c H1 Q1 q1 => ⟨rfl, _, rfl, c, _, rfl, rfl, q1⟩) (fun H1 k e => ⟨D, _, rfl, SqL.of e, _, rfl, ite2 (fun h3 => ?_) (fun h3 => ?_)⟩)⟩
      · refine qN (figs_no fun z => ?_) H1 k
        rw [List.all_map] at h3
        have := z.2
        simp only [Bool.not_eq_true'] at h3
        rw [show (TL.tl x).all isFg = List.all x.cps.toList (id ∘ isFg) from rfl, h3] at this
        cases this
      · have h3' : (TL.tl x).all isFg = true := by
          rw [List.all_map] at h3
          simpa using h3
        obtain ⟨c, hc, hat⟩ := at0 h1'
        have hn := intText_fg h3' h1' (by omega)
        have key := figs_yes (m := m) h1' (by omega) h3'
        refine ⟨_, rfl, _, _, c, rfl, rfl, hsz, hat, rfl, _, rfl, ?_⟩
        have last : ¬ ((TL.tl x)[0]? = some 48 ∧ x ≠ "0") → (tOr (fun σ H Q => Q false H) (tTest (tOp (rI0 fun i j => .bl (decide (j < i))) (tCB (fun xs H Q => ∃ a n, xs = [.str a] ∧ PySem.intText? a = some n ∧ a.length ≤ 640 ∧ Q (.int n) H) (tCons (tVar 0) tNil)) (tVar 1)))) (L2.start n_figures_in [V.str x, V.int m]) H1 fun b H2 => if b = true then Q .non H2 else ∃ v, some (some (V.str x)) = some (some v) ∧ ∃ a n, [v] = [V.str a] ∧ PySem.intText? a = some n ∧ a.length ≤ 640 ∧ Q (.int n) H2 := fun hz => by
          rw [if_neg hz] at key
          refine ⟨_, rfl, _, _, rfl, hn, by omega, _, rfl, _, _, rfl, rfl, _, rfl, ?_⟩
          refine ite2 (fun h5 => ?_) (fun h5 => ?_)
          · rw [if_neg (by have := of_decide_eq_true h5; omega)] at key
            exact qN key H1 k
          · rw [if_pos (by simp at h5; omega)] at key
            refine ⟨_, rfl, _, _, rfl, hn, by omega, ?_⟩
            have := q H1 k
            rw [key] at this
            exact this
        refine ite2 (fun h4 => ?_) (fun h4 => ?_)
        · have h4' := v48.mp (of_decide_eq_true h4)
          refine ⟨_, rfl, rfl, _, rfl, ite2 (fun h5 => ?_) (fun h5 => ?_)⟩
          · have h5' : x ≠ "0" := fun z => by
              rw [z] at h5
              simp at h5
            rw [if_pos ⟨by rw [← h4']; exact hc, h5'⟩] at key
            exact qN key H1 k
          · have h5' : x = "0" := by simpa using h5
            exact last fun z => z.2 h5'
        · exact last fun z => h4 (decide_eq_true (v48.mpr (by
            have := z.1.symm.trans hc
            injection this with this
            exact this.symm)))
  · have h1' : ¬ 1 ≤ x.length := by simp at h1; omega
    refine ⟨_, rfl, iteT ?_⟩
    exact qN (figs_no fun z => h1' z.1.1) H kp0
theorem ok_is_letter {P : Program} {w : World} {K : PySem.W.Frag} {mg : Str → Option Value} {base : Heap} {C S f : Addr} {fd : FuncData} (g : G65 K mg C S) (F : Fn K "is_letter" s_is_letter f fd) (gF : mg "is_letter" = some (.ref f))
    (c_is_name : Cal P w K mg base CX0 1 "is_name" p_is_name spName) (c_figures_in : Cal P w K mg base CX0 1 "figures_in" p_figures_in spFigs) : Cal P w K mg base CX0 2 "is_letter" p_is_letter spLetter := by
  refine cal_of F gF sc_is_letter (fun vs H Q E h => by obtain ⟨x, rfl, _⟩ := h; rfl) (fun cdv A outer s H vs Q E hr h => ⟨_,
      (pss_cons (ps_if (pt_not (pt_val (pe_callB call_isi rfl g.isinstance rfl (pa_cons (pv 0) (pa_cons (pe_bltn (v := .ty "str") rfl g.str_ rfl rfl) pa_nil)))))
        (pss_one (ps_ret pe_bl))
        pss_nil)
      (pss_cons (ps_asg (pe_partition (pv 0) pe_str) (pg_tup rfl (pgs_cons (pg_name (i := 1) sc_is_letter.nd rfl (by first | exact Or.inl rfl | exact Or.inr rfl)) (pgs_cons (pg_name (i := 2) sc_is_letter.nd rfl (by first | exact Or.inl rfl | exact Or.inr rfl)) (pgs_cons (pg_name (i := 3) sc_is_letter.nd rfl (by first | exact Or.inl rfl | exact Or.inr rfl)) pgs_nil)))))
      (pss_one (ps_ret (pe_and (pe_cal c_is_name hr pass0 (pa_cons (pv 1) pa_nil)) (pe_one (pe_or (pe_cmpR op_eq (pv 2) pe_str (nomark _)) (pe_one (pe_cmpR op_notN (pe_cal c_figures_in hr pass0 (pa_cons (pv 3) (pa_cons (pe_gc g.MOST_AGE) pa_nil))) pe_non (nomark _)))))))))), ?_⟩) (fun _ _ _ _ _ _ us hl => match us, hl with | [_], _ => rfl)
  obtain ⟨x, rfl, hl, q⟩ := h
  have hsz := len20 hl
  have l12 : (Txt.partition x "@").1.length ≤ 2 ^ 20 ∧ (Txt.partition x "@").2.2.length ≤ 2 ^ 20 := by
    rcases split_at x with ⟨_, _, e⟩ | ⟨a, b, e, _, e2, _⟩
    · rw [e]
      exact ⟨hl, Nat.zero_le _⟩
    · rw [e2]
      have := congrArg List.length e
      rw [List.length_append, List.length_cons, ← TL.len_tl, ← TL.len_tl, ← TL.len_tl] at this
      exact ⟨by show a.length ≤ _; omega, by show b.length ≤ _; omega⟩
  have kp0 := Kp.refl [] H
  refine ⟨_, rfl, _, _, _, _, true, rfl, .ty "str", .base (.str x), kStr, _, rfl, iteF ?_⟩
  refine ⟨_, rfl, ⟨x, rfl⟩, _, _, rfl, rfl, by decide +kernel, hsz, fun p hp => ?_⟩
  have kp := kp0.new hp (.tup [.str (Txt.partition x "@").1, .str (Txt.partition x "@").2.1, .str (Txt.partition x "@").2.2])
  refine ⟨p, _, rfl, SqT.of upd_same, rfl, _, _, rfl, _, _, rfl, _, _, rfl, rfl, ?_⟩
  refine ⟨_, rfl, _, rfl, l12.1, fun H1 k1 => ?_⟩
  have k2 := kp.trans k1
  refine ⟨_, rfl, ite2 (fun h1 => ?_) (fun h1 => ?_)⟩
  · refine ⟨_, rfl, rfl, _, rfl, ite2 (fun h2 => ?_) (fun h2 => ?_)⟩
    · have := q H1 k2
      unfold letterM at this
      rw [h1, show ((Txt.partition x "@").2.1 == ("" : Str)) = true by simpa using h2] at this
      exact this
    · refine ⟨_, rfl, _, _, rfl, l12.2, .inr (.inl rfl), fun H2 k3 => ⟨rfl, ?_⟩⟩
      have := q H2 (k2.trans k3)
      unfold letterM at this
      rw [h1, show ((Txt.partition x "@").2.1 == ("" : Str)) = false by simpa using h2] at this
      cases e : figsM (Txt.partition x "@").2.2 9999 with
      | none => rw [e] at this; exact this
      | some n => rw [e] at this; exact this
  · have := q H1 k2
    unfold letterM at this
    rw [Bool.not_eq_true _ |>.mp h1] at this
    exact this
end T65
end
section
/-! W2: names, figures, letters as the law's reader sees them. -/
namespace T65
open PySem PySem.Spec PyProof.Rows L2
/-- [c for c in x if ..]: whether something is found -/
theorem lc_filt {H1 : Hp} {D : Addr} {te : TE} {tt : TT} {vs : List Nat} {k : Nat} {σ : L2.St} {Qd : Hp → Prop} (x : Str) (p : Nat → Bool) (hl : x.length ≤ 2 ^ 20) (hD : H1 D = none)
    (ht : ∀ (c : Nat) (H : Hp) (Q : Bool → Hp → Prop), Q (!p c) H → wipe ((wipe σ vs).set k (some (.str ⟨#[c]⟩))) vs = wipe σ vs ∧ tt ((wipe σ vs).set k (some (.str ⟨#[c]⟩))) H Q)
    (hs : ∀ (c : Nat) (H : Hp) (Q : VK), Q (.str ⟨#[c]⟩) H → te ((wipe σ vs).set k (some (.str ⟨#[c]⟩))) H Q)
    (hd : ∀ H acc, Kp [] H1 H → H D = some (.lst acc) → acc.isEmpty = x.cps.toList.all p → Qd H) :
    ∃ W : Nat → Nat → Hp → Prop, (∃ m, W 0 m (upd H1 D (.lst []))) ∧ ∀ i m H, W i m H →
      ((Its x).stop i H ∧ Qd H) ∨ ((Its x).go i H ∧ ∃ Nx : Hp → Prop, (∀ H', Nx H' → ∃ m', m' < m ∧ W (i + 1) m' H') ∧ ∀ v H', (Its x).yld i H v H' → gName k v (wipe σ vs) H' fun σ2 H2 => wipe σ2 vs = wipe σ vs ∧ tt σ2 H2 fun b H3 =>
        if b = true then te σ2 H3 fun y H4 => ∃ acc, H4 D = some (.lst acc) ∧ acc.length < sizeLine ∧ Nx (upd H4 D (.lst (acc ++ [y]))) else Nx H3) := by
  have hz : x.cps.size ≤ sizeLine := len20 hl
  refine lc_by x.cps.size (fun i H => Kp [] H1 H ∧ ∃ acc, H D = some (.lst acc) ∧ acc.length ≤ i ∧ acc.isEmpty = (x.cps.toList.take i).all p) ⟨(Kp.refl [] H1).new hD _, [], upd_same, Nat.le_refl _, rfl⟩ (fun i H hi _ => hi) (fun H _ => Nat.le_refl _) (fun i v H H' hi hP hy => ?_) (fun H hP => ?_)
  · obtain ⟨hk, acc, hd1, hal, hae⟩ := hP
    obtain ⟨rfl, c, hc, rfl⟩ := hy
    have hc' : x.cps.toList[i]? = some c := by rw [Array.getElem?_toList]; exact hc
    have et : x.cps.toList.take (i + 1) = x.cps.toList.take i ++ [c] := by
      rw [List.take_succ, hc']
      rfl
    refine ht c H' _ ?_
    cases hp : p c with
    | true => exact ⟨hk, acc, hd1, Nat.le_succ_of_le hal, by rw [et, List.all_append, hae]; simp [hp]⟩
    | false =>
      refine hs c H' _ ⟨acc, hd1, Nat.lt_of_le_of_lt hal (Nat.lt_of_lt_of_le hi hz), hk.upN hD _, _, upd_same, by rw [List.length_append]; exact Nat.succ_le_succ hal, ?_⟩
      rw [et, List.all_append]
      simp [hp]
  · obtain ⟨hk, acc, h1, _, h3⟩ := hP
    refine hd H acc hk h1 ?_
    rw [h3, List.take_of_length_le (by rw [Array.length_toList]; exact Nat.le_refl _)]
theorem name_no {x : Str} (h : ¬ ((1 ≤ x.length ∧ x.length ≤ 8) ∧ (TL.tl x).all isSm = true)) : nameM x = false := by
  unfold nameM
  rw [← Bool.not_eq_true]
  intro z
  simp only [Bool.and_eq_true, decide_eq_true_eq] at z
  exact h z
theorem name_yes {x : Str} (h1 : 1 ≤ x.length) (h2 : x.length ≤ 8) : nameM x = (TL.tl x).all isSm := by
  unfold nameM
  rw [decide_eq_true h1, decide_eq_true h2]
  rfl
theorem ok_law_is_name {P : Program} {w : World} {K : PySem.W.Frag} {mg : Str → Option Value} {base : Heap} {C S f : Addr} {fd : FuncData} (g : G65 K mg C S) (F : Fn K "_law_is_name" s_law_is_name f fd) (gF : mg "_law_is_name" = some (.ref f)) : Cal P w K mg base CX0 1 "_law_is_name" p_law_is_name spName := by
  refine cal_of F gF sc_law_is_name (fun vs H Q E h => by obtain ⟨x, rfl, _⟩ := h; rfl) (fun cdv A outer s H vs Q E hr h => ⟨_,
      (pss_one (ps_ret (pe_and (pe_chain op_lt op_lt pe_int (pe_callB call_len rfl g.len rfl (pa_cons (pv 0) pa_nil)) pe_int) (pe_one (pe_cmpR (op_eqNil (hu64 hr)) (pe_lc rfl sc_law_is_name.nd (pi_str (pv 0)) (own := [("_law_sign", 1)]) (blkOk_by (by kernel_rfl)) (fun _ _ _ _ _ => (pg_name (i := 1) sc_law_is_name.nd rfl (by first | exact Or.inl rfl | exact Or.inr rfl))) (fun _ _ _ _ _ => (pts_one (pt_cmpR op_notIn_sign (pv 1) pe_str (by with_unfolding_all rfl)))) (fun _ _ _ _ _ => (pv 1))) (pe_lst pa_nil) (nomark _)))))), ?_⟩) (fun _ _ _ _ _ _ us hl => match us, hl with | [_], _ => rfl)
  obtain ⟨x, rfl, hl, q⟩ := h
  have hsz := len20 hl
  have qN : nameM x = false → Q (.bl false) H := fun e => by
    have := q H (Kp.refl [] H)
    rw [e] at this
    exact this
  refine ⟨_, rfl, _, _, rfl, ⟨hsz, rfl⟩, _, _, rfl, rfl, _, rfl, ite2 (fun h1 => ?_) (fun h1 => ?_)⟩
  · have h1' : 1 ≤ x.length := by have := of_decide_eq_true h1; omega
    refine ⟨_, _, rfl, rfl, _, rfl, ite2 (fun h2 => ?_) (fun h2 => ?_)⟩
    · have h2' : x.length ≤ 8 := by have := of_decide_eq_true h2; omega
      refine ⟨_, rfl, _, rfl, fun D hD => lc_filt x isSm hl hD (fun c H1 Q1 q1 => ⟨rfl, _, rfl, c, _, rfl, rfl, _, rfl, q1⟩) (fun c H1 Q1 q1 => ⟨_, rfl, q1⟩) (fun H1 acc k e em => ⟨Nat.zero_le _, fun p hp => ⟨D, p, acc, rfl, rfl, ?_, SqL.of upd_same, ?_⟩⟩)⟩
      · exact SqL.of (by rw [upd_ne (ne_of_none e hp)]; exact e)
      · have := q _ (k.new hp (.lst []))
        rw [name_yes h1' h2'] at this
        rw [em]
        exact this
    · exact qN (name_no fun z => h2 (decide_eq_true (by omega)))
  · exact ⟨_, rfl, qN (name_no fun z => h1 (decide_eq_true (by omega)))⟩
theorem ok_law_integer_in {P : Program} {w : World} {K : PySem.W.Frag} {mg : Str → Option Value} {base : Heap} {C S f : Addr} {fd : FuncData} (g : G65 K mg C S) (F : Fn K "_law_integer_in" s_law_integer_in f fd) (gF : mg "_law_integer_in" = some (.ref f)) : Cal P w K mg base CX0 1 "_law_integer_in" p_law_integer_in spFigs := by
  refine cal_of F gF sc_law_integer_in (fun vs H Q E h => by obtain ⟨x, m, rfl, _⟩ := h; rfl) (fun cdv A outer s H vs Q E hr h => ⟨_,
      (pss_cons (ps_if (PW.pt (pw_or (pt_not (pt_chain op_lt op_lt pe_int (pe_callB call_len rfl g.len rfl (pa_cons (pv 0) pa_nil)) pe_int)) (pw_or1 (pt_cmpR (op_neNil (hu64 hr)) (pe_lc rfl sc_law_integer_in.nd (pi_str (pv 0)) (own := [("_law_sign", 2)]) (blkOk_by (by kernel_rfl)) (fun _ _ _ _ _ => (pg_name (i := 2) sc_law_integer_in.nd rfl (by first | exact Or.inl rfl | exact Or.inr rfl))) (fun _ _ _ _ _ => (pts_one (pt_cmpR op_notIn_sign (pv 2) pe_str (by with_unfolding_all rfl)))) (fun _ _ _ _ _ => (pv 2))) (pe_lst pa_nil) (nomark _)))))
        (pss_one (ps_ret pe_non))
        pss_nil)
      (pss_cons (ps_if (PW.pt (pw_and (pt_cmpR op_eq (pe_ix ix_str (pv 0) pe_int (fun _ _ => rfl)) pe_str (nomark _)) (pw_and1 (pt_cmpR op_ne (pv 0) pe_str (nomark _)))))
        (pss_one (ps_ret pe_non))
        pss_nil)
      (pss_one (ps_ret (pe_ifExp (pt_cmpR op_le (pe_callTy call_int_str rfl g.int rfl (pa_cons (pv 0) pa_nil)) (pv 1) (nomark _)) (pe_callTy call_int_str rfl g.int rfl (pa_cons (pv 0) pa_nil)) pe_non))))), ?_⟩) (fun _ _ _ _ _ _ us hl => match us, hl with | [_, _], _ => rfl)
  obtain ⟨x, m, rfl, hl, hm, q⟩ := h
  have hsz := len20 hl
  have qN : figsM x m = none → ∀ H', Kp [] H H' → Q .non H' := fun e H' k => by
    have := q H' k
    rw [e] at this
    exact this
  have kp0 := Kp.refl [] H
  refine ⟨_, rfl, _, _, rfl, ⟨hsz, rfl⟩, _, _, rfl, rfl, _, rfl, ite2 (fun h1 => ?_) (fun h1 => ?_)⟩
  · have h1' : 1 ≤ x.length := by have := of_decide_eq_true h1; omega
    refine ⟨_, _, rfl, rfl, _, rfl, ite2 (fun h2 => ?_) (fun h2 => ?_)⟩
    · have h2' : ¬ x.length ≤ 8 := by simp at h2; omega
      exact qN (figs_no fun z => h2' z.1.2) H kp0
    · have h2' : x.length ≤ 8 := by simp at h2; omega
      refine ⟨_, rfl, _, rfl, fun D hD => lc_filt x isFg hl hD (fun c H1 Q1 q1 => ⟨rfl, _, rfl, c, _, rfl, rfl, _, rfl, q1⟩) (fun c H1 Q1 q1 => ⟨_, rfl, q1⟩) (fun H1 acc k e em => ⟨Nat.zero_le _, fun p hp => ⟨D, p, acc, rfl, rfl, ?_, SqL.of upd_same, _, rfl, ite2 (fun h3 => ?_) (fun h3 => ?_)⟩⟩)⟩
      · exact SqL.of (by rw [upd_ne (ne_of_none e hp)]; exact e)
      · rw [em] at h3
        refine qN (figs_no fun z => ?_) _ (k.new hp _)
        have := z.2
        rw [show (TL.tl x).all isFg = x.cps.toList.all isFg from rfl] at this
        rw [this] at h3
        cases h3
      · have h3' : (TL.tl x).all isFg = true := by
          rw [em] at h3
          simpa using h3
        have k := k.new hp (.lst [])
        obtain ⟨c, hc, hat⟩ := at0 h1'
        have hn := intText_fg h3' h1' (by omega)
        have key := figs_yes (m := m) h1' h2' h3'
        have last : ¬ ((TL.tl x)[0]? = some 48 ∧ x ≠ "0") → ∃ v, some (some (V.str x)) = some (some v) ∧ ∃ a n, [v] = [V.str a] ∧ PySem.intText? a = some n ∧ a.length ≤ 640 ∧ ∃ v2, some (some (V.int m)) = some (some v2) ∧ ∃ i j, V.int n = .int i ∧ v2 = .int j ∧ ∃ kk, V.bl (decide (i ≤ j)) = .bl kk ∧
            if kk = true then ∃ v, some (some (V.str x)) = some (some v) ∧ ∃ a n, [v] = [V.str a] ∧ PySem.intText? a = some n ∧ a.length ≤ 640 ∧ Q (.int n) (upd H1 p (.lst [])) else Q .non (upd H1 p (.lst [])) := fun hz => by
          rw [if_neg hz] at key
          refine ⟨_, rfl, _, _, rfl, hn, by omega, _, rfl, _, _, rfl, rfl, _, rfl, ite2 (fun h5 => ?_) (fun h5 => ?_)⟩
          · rw [if_pos (by have := of_decide_eq_true h5; omega)] at key
            refine ⟨_, rfl, _, _, rfl, hn, by omega, ?_⟩
            have := q _ k
            rw [key] at this
            exact this
          · rw [if_neg (fun z => h5 (decide_eq_true (by omega)))] at key
            exact qN key _ k
        refine ⟨_, rfl, _, _, c, rfl, rfl, hsz, hat, rfl, _, rfl, ite2 (fun h4 => ?_) (fun h4 => ?_)⟩
        · have h4' := v48.mp (of_decide_eq_true h4)
          refine ⟨_, rfl, rfl, _, rfl, ite2 (fun h5 => ?_) (fun h5 => ?_)⟩
          · have h5' : x ≠ "0" := fun z => by
              rw [z] at h5
              simp at h5
            rw [if_pos ⟨by rw [← h4']; exact hc, h5'⟩] at key
            exact qN key _ k
          · exact last fun z => z.2 (by simpa using h5)
        · exact last fun z => h4 (decide_eq_true (v48.mpr (by
            have := z.1.symm.trans hc
            injection this with this
            exact this.symm)))
  · exact ⟨_, rfl, iteT (qN (figs_no fun z => h1 (decide_eq_true (by omega))) H kp0)⟩
end T65
end
section
/-! W3: a letter as the law's reader sees it. -/
namespace T65
open PySem PySem.Spec PyProof.Rows L2
theorem letter1 {x : Str} (h : Txt.partition x "@" = (x, Str.empty, Str.empty)) : letterM x = nameM x := by
  unfold letterM
  rw [h]
  simp [show ((Str.empty : Str) == ("" : Str)) = true by decide]
theorem letter2 {x a b : Str} (h : Txt.partition x "@" = (a, ("@" : Str), b)) : letterM x = (nameM a && ageL b) := by
  unfold letterM
  rw [h]
  simp [show ((("@" : Str)) == ("" : Str)) = false by decide, age_eq]
theorem age_at {b : Str} (h : 64 ∈ TL.tl b) : ageL b = false := by
  have : (TL.tl b).all isFg = false := by
    rw [← Bool.not_eq_true]
    intro z
    have := (fg_iff 64).mp (List.all_eq_true.mp z 64 h)
    omega
  unfold ageL
  rw [this]
  simp
theorem ok_law_is_letter {P : Program} {w : World} {K : PySem.W.Frag} {mg : Str → Option Value} {base : Heap} {C S f : Addr} {fd : FuncData} (g : G65 K mg C S) (F : Fn K "_law_is_letter" s_law_is_letter f fd) (gF : mg "_law_is_letter" = some (.ref f)) : Cal P w K mg base CX0 1 "_law_is_letter" p_law_is_letter spLetter := by
  refine cal_of F gF sc_law_is_letter (fun vs H Q E h => by obtain ⟨x, rfl, _⟩ := h; rfl) (fun cdv A outer s H vs Q E hr h => ⟨_,
      (pss_cons (ps_if (PW.pt (pw_or (pt_not (pt_val (pe_callB call_isi rfl g.isinstance rfl (pa_cons (pv 0) (pa_cons (pe_bltn (v := .ty "str") rfl g.str_ rfl rfl) pa_nil))))) (pw_or1 (pt_cmpR op_gt (pe_callB call_len rfl g.len rfl (pa_cons (pe_split (pv 0) pe_str) pa_nil)) pe_int (nomark _)))))
        (pss_one (ps_ret pe_bl))
        pss_nil)
      (pss_cons (ps_set (i := 1) sc_law_is_letter.nd rfl (by first | exact Or.inl rfl | exact Or.inr rfl) (pe_split (pv 0) pe_str))
      (pss_cons (ps_if (PW.pt (pw_or (pt_not (pt_chain op_lt op_lt pe_int (pe_callB call_len rfl g.len rfl (pa_cons (pe_ix ix_list (pv 1) pe_int (fun _ _ => rfl)) pa_nil)) pe_int)) (pw_or1 (pt_cmpR (op_neNil (hu64 hr)) (pe_lc rfl sc_law_is_letter.nd (pi_str (pe_ix ix_list (pv 1) pe_int (fun _ _ => rfl))) (own := [("_law_sign", 2)]) (blkOk_by (by kernel_rfl)) (fun _ _ _ _ _ => (pg_name (i := 2) sc_law_is_letter.nd rfl (by first | exact Or.inl rfl | exact Or.inr rfl))) (fun _ _ _ _ _ => (pts_one (pt_cmpR op_notIn_sign (pv 2) pe_str (by with_unfolding_all rfl)))) (fun _ _ _ _ _ => (pv 2))) (pe_lst pa_nil) (nomark _)))))
        (pss_one (ps_ret pe_bl))
        pss_nil)
      (pss_cons (ps_if (pt_cmpR op_eq (pe_callB call_len rfl g.len rfl (pa_cons (pv 1) pa_nil)) pe_int (nomark _))
        (pss_one (ps_ret pe_bl))
        pss_nil)
      (pss_cons (ps_if (PW.pt (pw_or (pt_not (pt_chain op_lt op_lt pe_int (pe_callB call_len rfl g.len rfl (pa_cons (pe_ix ix_list (pv 1) pe_int (fun _ _ => rfl)) pa_nil)) pe_int)) (pw_or1 (pt_cmpR (op_neNil (hu64 hr)) (pe_lc rfl sc_law_is_letter.nd (pi_str (pe_ix ix_list (pv 1) pe_int (fun _ _ => rfl))) (own := [("_law_sign", 2)]) (blkOk_by (by kernel_rfl)) (fun _ _ _ _ _ => (pg_name (i := 2) sc_law_is_letter.nd rfl (by first | exact Or.inl rfl | exact Or.inr rfl))) (fun _ _ _ _ _ => (pts_one (pt_cmpR op_notIn_sign (pv 2) pe_str (by with_unfolding_all rfl)))) (fun _ _ _ _ _ => (pv 2))) (pe_lst pa_nil) (nomark _)))))
        (pss_one (ps_ret pe_bl))
        pss_nil)
      (pss_one (ps_ret (pe_or (pe_cmpR op_eq (pe_ix ix_list (pv 1) pe_int (fun _ _ => rfl)) pe_str (nomark _)) (pe_one (pe_cmpR op_ne (pe_ix ix_str (pe_ix ix_list (pv 1) pe_int (fun _ _ => rfl)) pe_int (fun _ _ => rfl)) pe_str (nomark _))))))))))), ?_⟩) (fun _ _ _ _ _ _ us hl => match us, hl with | [_], _ => rfl)
  obtain ⟨x, rfl, hl, q⟩ := h
  have hsz := len20 hl
  have hs2 : x.length + 2 ≤ sizeLine := by rw [sizeLine_eq]; omega
  refine ⟨_, rfl, _, _, _, _, true, rfl, .ty "str", .base (.str x), kStr, _, rfl, iteF ?_⟩
  refine ⟨_, rfl, ⟨x, rfl⟩, _, _, rfl, rfl, by decide +kernel, hs2, fun p1 hp1 => ⟨_, _, rfl, .inl ⟨_, SqL.of upd_same, rfl⟩, _, _, rfl, rfl, _, rfl, ?_⟩⟩
  have k1 := (Kp.refl [] H).new hp1 (.lst ((Txt.split x "@").map V.str))
  refine ite2 (fun h1 => ?_) (fun h1 => ?_)
  · have h1' : 2 < (Txt.split x "@").length := by
      have := of_decide_eq_true h1
      rw [List.length_map] at this
      omega
    have : letterM x = false := by
      rcases split_at x with ⟨_, e, _⟩ | ⟨a, b, _, _, e2, e | e⟩
      · rw [e] at h1'
        simp at h1'
      · rw [e.2] at h1'
        simp at h1'
      · rw [letter2 e2, age_at e.1]
        simp
    have q1 := q _ k1
    rw [this] at q1
    exact q1
  · refine ⟨_, rfl, ⟨x, rfl⟩, _, _, rfl, rfl, by decide +kernel, hs2, fun p2 hp2 => ?_⟩
    have k2 := k1.new hp2 (.lst ((Txt.split x "@").map V.str))
    -- the head and whether more follows
    have parts : (Txt.split x "@" = [x] ∧ letterM x = nameM x) ∨ ∃ a b, Txt.split x "@" = [a, b] ∧ a.length ≤ 2 ^ 20 ∧ b.length ≤ 2 ^ 20 ∧ letterM x = (nameM a && ageL b) := by
      rcases split_at x with ⟨_, e, e2⟩ | ⟨a, b, e0, _, e2, e | e⟩
      · exact .inl ⟨e, letter1 e2⟩
      · have := congrArg List.length e0
        rw [List.length_append, List.length_cons, ← TL.len_tl, ← TL.len_tl, ← TL.len_tl] at this
        exact .inr ⟨a, b, e.2, by omega, by omega, letter2 e2⟩
      · exact absurd (decide_eq_true (by rw [List.length_map]; have := e.2; omega)) h1
    have step : ∀ (a : Str) (rest : List Str) (D : Ends) (σ : L2.St), D.rt = Q → Txt.split x "@" = a :: rest → a.length ≤ 2 ^ 20 → σ = [some (.str x), some (.ref p2), none] → (nameM a = false → letterM x = false) →
        ∀ (nxt : L2.St → Hp → Prop), (∀ H', Kp [] H H' → H' p2 = some (.lst ((a :: rest).map V.str)) → nameM a = true → nxt σ H') → 
        (tIfS (tOr (tNot (tTest (tChain (rI0 fun i j => .bl (decide (i < j))) (rI0 fun i j => .bl (decide (i < j))) (tC (.int 0)) (tCB (fun xs H Q => ∃ x n, xs = [x] ∧ LenV K x H n ∧ Q (.int n) H) (tCons (tOp (rIxL K) (tVar 1) (tC (.int 0))) tNil)) (tC (.int 9)))))
          (tTest (tOp (rNeNil K) (tLc (iStr (tOp (rIxL K) (tVar 1) (tC (.int 0)))) (gName 2) (tTest (tOp (fun x y H Q => ∃ (c : Nat) (z : Str), x = .str ⟨#[c]⟩ ∧ y = .str z ∧ Q (.bl (!decide (c ∈ z.cps.toList))) H) (tVar 2) (tC (.str zSmall)))) (tVar 2) [2]) (tLst tNil))))
          (tRet (tC (.bl false))) tNext) { D with nx := nxt } σ (upd (upd H p1 (.lst ((Txt.split x "@").map V.str))) p2 (.lst ((Txt.split x "@").map V.str))) := by
      intro a rest D σ hD e la hσ hN nxt hnx
      subst hσ
      have at2 : upd (upd H p1 (.lst ((Txt.split x "@").map V.str))) p2 (.lst ((Txt.split x "@").map V.str)) p2 = some (.lst ((a :: rest).map V.str)) := by rw [upd_same, e]
      have az := len20 la
      have no : ∀ H', Kp [] H H' → nameM a = false → D.rt (.bl false) H' := fun H' k z => by
        have := q H' k
        rw [hN z] at this
        rw [hD]
        exact this
      refine ⟨_, rfl, _, _, 0, .str a, rfl, rfl, SqL.of at2, atI_nat (j := 0) rfl, _, _, rfl, ⟨az, rfl⟩, _, _, rfl, rfl, _, rfl, ite2 (fun h1 => ?_) (fun h1 => ?_)⟩
      · have h1' : 1 ≤ a.length := by have := of_decide_eq_true h1; omega
        refine ⟨_, _, rfl, rfl, _, rfl, ite2 (fun h2 => ?_) (fun h2 => ?_)⟩
        · have h2' : ¬ a.length ≤ 8 := by simp at h2; omega
          exact no _ k2 (name_no fun z => h2' z.1.2)
        · have h2' : a.length ≤ 8 := by simp at h2; omega
          refine ⟨_, rfl, _, _, 0, .str a, rfl, rfl, SqL.of at2, atI_nat (j := 0) rfl, _, rfl, fun D2 hD2 => lc_filt a isSm la hD2 (fun c H1 Q1 q1 => ⟨rfl, _, rfl, c, _, rfl, rfl, _, rfl, q1⟩) (fun c H1 Q1 q1 => ⟨_, rfl, q1⟩) (fun H1 acc k e em => ⟨Nat.zero_le _, fun p hp => ⟨D2, p, acc, rfl, rfl, ?_, SqL.of upd_same, _, rfl, ite2 (fun h3 => ?_) (fun h3 => ?_)⟩⟩)⟩
          · exact SqL.of (by rw [upd_ne (ne_of_none e hp)]; exact e)
          · rw [em] at h3
            refine no _ ((k2.trans k).new hp _) ?_
            rw [name_yes h1' h2']
            simpa using h3
          · refine hnx _ ((k2.trans k).new hp _) ?_ ?_
            · rw [upd_ne (ne_of_none (k.at0 at2) hp)]
              exact k.at0 at2
            · rw [em] at h3
              rw [name_yes h1' h2']
              simpa using h3
      · exact ⟨_, rfl, iteT (no _ k2 (name_no fun z => h1 (decide_eq_true (by omega))))⟩
    rcases parts with ⟨e, el⟩ | ⟨a, b, e, la, lb, el⟩
    · refine step x [] { nx := fun _ H' => Q .non H', rt := Q } _ rfl e hl rfl (fun z => by rw [el, z]) _ fun H3 k3 h3 hn => ?_
      refine ⟨_, rfl, _, _, rfl, .inl ⟨_, SqL.of h3, rfl⟩, rfl, _, rfl, ?_⟩
      have := q _ k3
      rw [el, hn] at this
      exact this
    · have bz := len20 lb
      refine step a [b] { nx := fun _ H' => Q .non H', rt := Q } _ rfl e la rfl (fun z => by rw [el, z]; rfl) _ fun H3 k3 h3 hn => ?_
      rw [hn, Bool.true_and] at el
      have no : ageL b = false → ∀ H', Kp [] H H' → Q (.bl false) H' := fun z H' k => by
        have := q H' k
        rw [el, z] at this
        exact this
      refine ⟨_, rfl, _, _, rfl, .inl ⟨_, SqL.of h3, rfl⟩, rfl, _, rfl, ?_⟩
      refine ⟨_, rfl, _, _, 1, .str b, rfl, rfl, SqL.of h3, rfl, _, _, rfl, ⟨bz, rfl⟩, _, _, rfl, rfl, _, rfl, ite2 (fun h1 => ?_) (fun h1 => ?_)⟩
      · have h1' : 1 ≤ b.length := by have := of_decide_eq_true h1; omega
        refine ⟨_, _, rfl, rfl, _, rfl, ite2 (fun h2 => ?_) (fun h2 => ?_)⟩
        · have h2' : ¬ b.length ≤ 4 := by simp at h2; omega
          exact no (by unfold ageL; rw [decide_eq_false h2']; simp) _ k3
        · have h2' : b.length ≤ 4 := by simp at h2; omega
          have ag : ageL b = ((TL.tl b).all isFg && (b == ("0" : Str) || !decide ((TL.tl b)[0]? = some 48))) := by
            unfold ageL
            rw [decide_eq_true h1', decide_eq_true h2']
            simp
          refine ⟨_, rfl, _, _, 1, .str b, rfl, rfl, SqL.of h3, rfl, _, rfl, fun D2 hD2 => lc_filt b isFg lb hD2 (fun c H1 Q1 q1 => ⟨rfl, _, rfl, c, _, rfl, rfl, _, rfl, q1⟩) (fun c H1 Q1 q1 => ⟨_, rfl, q1⟩) (fun H1 acc k e em => ⟨Nat.zero_le _, fun p hp => ⟨D2, p, acc, rfl, rfl, ?_, SqL.of upd_same, _, rfl, ite2 (fun h4 => ?_) (fun h4 => ?_)⟩⟩)⟩
          · exact SqL.of (by rw [upd_ne (ne_of_none e hp)]; exact e)
          · rw [em] at h4
            refine no ?_ _ ((k3.trans k).new hp _)
            rw [ag]
            have : (TL.tl b).all isFg = false := by simpa using h4
            rw [this]
            rfl
          · have h4' : (TL.tl b).all isFg = true := by
              rw [em] at h4
              simpa using h4
            have k4 := (k3.trans k).new hp (.lst [])
            have at4 : upd H1 p (.lst []) p2 = some (.lst (([a, b] : List Str).map V.str)) := by
              rw [upd_ne (ne_of_none (k.at0 h3) hp)]
              exact k.at0 h3
            obtain ⟨c, hc, hat⟩ := at0 h1'
            rw [ag, h4', Bool.true_and] at el
            have qq := q _ k4
            rw [el] at qq
            refine ⟨_, rfl, _, _, 1, .str b, rfl, rfl, SqL.of at4, rfl, rfl, _, rfl, ite2 (fun h5 => ?_) (fun h5 => ?_)⟩
            · rw [show (b == ("0" : Str)) = true by simpa using h5] at qq
              exact qq
            · rw [show (b == ("0" : Str)) = false by simpa using h5, Bool.false_or] at qq
              refine ⟨_, rfl, _, _, 1, .str b, rfl, rfl, SqL.of at4, rfl, _, _, c, rfl, rfl, bz, hat, rfl, ?_⟩
              have e2 : decide (V.str ⟨#[c]⟩ = V.str "0") = decide ((TL.tl b)[0]? = some 48) := by
                rw [show (TL.tl b)[0]? = some c from hc]
                by_cases z : c = 48
                · rw [decide_eq_true (v48.mpr z), z]
                  simp
                · rw [decide_eq_false (fun y => z (v48.mp y))]
                  simp [z]
              rw [← e2] at qq
              exact qq
      · exact ⟨_, rfl, iteT (no (by unfold ageL; rw [decide_eq_false (fun z => h1 (decide_eq_true (by omega)))]; simp) _ k3)⟩
end T65
end
section
/-! W4: the tokens of a line, by the program and by the law. -/
namespace T65
open PySem PySem.Spec PyProof.Rows L2
def tokD (q : Str × Nat) : PyData := .tuple [.str q.1, .int (q.2 : Nat)]
def spToks : Sp := fun vs H Q _ => ∃ x : Str, vs = [.str x] ∧ x.length < 2 ^ 19 ∧ ∀ (H' : Hp) (l : Addr) (us : List V), Kp [] H H' → H l = none → H' l = some (.lst us) → TDs H' us ((toks x).map tokD) → Q (.ref l) H'
theorem Tu.new {H : Hp} {p : Addr} {o : HO} (h : H p = none) : Tu H (upd H p o) := fun b xs e => by rw [upd_ne (ne_of_none e h)]; exact e
theorem Tu.lst {H : Hp} {p : Addr} {o : HO} {us : List V} (h : H p = some (.lst us)) : Tu H (upd H p o) := fun b xs e => by rw [upd_ne (ne_of e h (by simp))]; exact e
theorem cut_nat {z : Str} {i e : Nat} (h1 : i ≤ z.length) (h2 : e ≤ z.length) : cutS z (some (i : Int)) (some (e : Int)) = mkS ((TL.tl z).drop i |>.take (e - i)) := by
  unfold cutS
  rw [HT.sIx_nat, HT.sIx_nat, Nat.min_eq_left h1, Nat.min_eq_left h2]
  rfl
theorem at_n {x : Str} {i : Nat} (h : i < x.length) : ∃ c, x.cps.toList[i]? = some c ∧ atI x.cps.toList (i : Int) = some c ∧ (TL.tl x).getD i 0 = c := by
  have h' : i < x.cps.toList.length := by rw [Array.length_toList]; exact h
  have e : x.cps.toList[i]? = some x.cps.toList[i] := List.getElem?_eq_getElem h'
  exact ⟨_, e, atI_nat e, by rw [List.getD_eq_getElem?_getD, show (TL.tl x)[i]? = _ from e]; rfl⟩
/-- the run of signs from e on -/
theorem run_step {L : List Nat} {e : Nat} (h : e < L.length) : ((L.drop e).takeWhile isSg).length = if isSg (L.getD e 0) = true then ((L.drop (e + 1)).takeWhile isSg).length + 1 else 0 := by
  have e1 : L.getD e 0 = L[e] := by rw [List.getD_eq_getElem?_getD, List.getElem?_eq_getElem h]; rfl
  rw [List.drop_eq_getElem_cons h, List.takeWhile_cons, e1]
  split
  · simp
  · rfl
theorem run_end {L : List Nat} {e : Nat} (h : L.length ≤ e) : ((L.drop e).takeWhile isSg).length = 0 := by
  rw [List.drop_eq_nil_of_le h]
  rfl
theorem chr32 {c : Nat} : (V.str ⟨#[c]⟩ = V.str " ") ↔ c = 32 := by
  constructor
  · intro e
    have e1 : (⟨#[c]⟩ : Str) = " " := by injection e
    have e2 := congrArg (fun z : Str => z.cps.toList) e1
    rw [show (" " : Str).cps.toList = [32] by decide +kernel] at e2
    simpa using e2
  · rintro rfl
    rw [show (⟨#[32]⟩ : Str) = " " by decide +kernel]
/-- what is found so far -/
structure TkAt (H0 H : Hp) (x : Str) (q : Addr) (i : Nat) (us : List V) : Prop where
  kp : Kp [] H0 H
  at_ : H q = some (.lst us)
  hi : i ≤ x.length
  le : us.length ≤ i
  ex : ∃ done f, TDs H us (done.map tokD) ∧ done ++ lexF (TL.tl x) f i = lexF (TL.tl x) x.length 0 ∧ x.length ≤ i + f
theorem TkAt.skip {H0 H : Hp} {x : Str} {q : Addr} {i : Nat} {us : List V} (h : TkAt H0 H x q i us) (hi : i < x.length) (hc : (TL.tl x).getD i 0 = 32) : TkAt H0 H x q (endT (TL.tl x) i) us := by
  obtain ⟨done, f, t1, t2, t3⟩ := h.ex
  have hl := TL.len_tl x
  have g := endT_gt (TL.tl x) i
  refine ⟨h.kp, h.at_, by rw [hl]; exact endT_le _ (by rw [← hl]; exact hi), by have := h.le; omega, done, f - 1, t1, ?_, by omega⟩
  obtain ⟨f', rfl⟩ : ∃ f', f = f' + 1 := ⟨f - 1, by omega⟩
  rw [← t2]
  conv => rhs; unfold lexF
  rw [if_pos (by rw [← hl]; exact hi), if_pos hc]
  rfl
theorem TkAt.put {H0 H : Hp} {x : Str} {q p : Addr} {i : Nat} {us : List V} (h : TkAt H0 H x q i us) (hi : i < x.length) (hc : (TL.tl x).getD i 0 ≠ 32) (hq : H0 q = none) (hp : H p = none) :
    TkAt H0 (upd (upd H p (.tup [.str (mkS ((TL.tl x).drop i |>.take (endT (TL.tl x) i - i))), .int ((i : Nat) + 1)])) q (.lst (us ++ [.ref p]))) x q (endT (TL.tl x) i) (us ++ [.ref p]) := by
  obtain ⟨done, f, t1, t2, t3⟩ := h.ex
  have hl := TL.len_tl x
  have g := endT_gt (TL.tl x) i
  have qp : q ≠ p := ne_of_none h.at_ hp
  refine ⟨(h.kp.new hp _).upN hq _, upd_same, by rw [hl]; exact endT_le _ (by rw [← hl]; exact hi), by have := h.le; rw [List.length_append, List.length_singleton]; omega, done ++ [(mkS ((TL.tl x).drop i |>.take (endT (TL.tl x) i - i)), i + 1)], f - 1, ?_, ?_, by omega⟩
  · have u1 : Tu H (upd H p (.tup [.str (mkS ((TL.tl x).drop i |>.take (endT (TL.tl x) i - i))), .int ((i : Nat) + 1)])) := Tu.new hp
    have u2 := Tu.lst (H := upd H p (.tup [.str (mkS ((TL.tl x).drop i |>.take (endT (TL.tl x) i - i))), .int ((i : Nat) + 1)])) (p := q) (o := .lst (us ++ [.ref p])) (us := us) (by rw [upd_ne qp]; exact h.at_)
    rw [List.map_append]
    refine (t1.tu (u1.trans u2)).app (TDs.one (TD.tup (xs := [.str (mkS ((TL.tl x).drop i |>.take (endT (TL.tl x) i - i))), .int ((i : Nat) + 1)]) (by rw [upd_ne (Ne.symm qp), upd_same]) (.cons (.str _) (TDs.one (.int _)))))
  · obtain ⟨f', rfl⟩ : ∃ f', f = f' + 1 := ⟨f - 1, by omega⟩
    rw [← t2]
    conv => rhs; unfold lexF
    rw [if_pos (by rw [← hl]; exact hi), if_neg hc, List.append_assoc]
    rfl
theorem ok_tokens_of {P : Program} {w : World} {K : PySem.W.Frag} {mg : Str → Option Value} {base : Heap} {C S f : Addr} {fd : FuncData} (g : G65 K mg C S) (F : Fn K "tokens_of" s_tokens_of f fd) (gF : mg "tokens_of" = some (.ref f)) : Cal P w K mg base CX0 1 "tokens_of" p_tokens_of spToks := by
  refine cal_of F gF sc_tokens_of (fun vs H Q E h => by obtain ⟨x, rfl, _⟩ := h; rfl) (fun cdv A outer s H vs Q E hr h => ⟨_,
      (pss_cons (ps_par (i := 1) (j := 2) rfl sc_tokens_of.nd rfl rfl (by decide) rfl rfl (pa_cons (pe_lst pa_nil) (pa_cons pe_int pa_nil)) rfl)
      (pss_cons (ps_while (passes_of rfl) (pt_cmpR op_lt (pv 2) (pe_callB call_len rfl g.len rfl (pa_cons (pv 0) pa_nil)) (nomark _))
        (pss_cons (ps_set (i := 3) sc_tokens_of.nd rfl (by first | exact Or.inl rfl | exact Or.inr rfl) (pe_op op_add (pv 2) pe_int))
        (pss_cons (ps_if (pt_cmpR op_in_sign (pe_ix ix_str (pv 0) (pv 2) (fun _ _ => rfl)) (pe_gc g.SIGNS) (by with_unfolding_all rfl))
          (pss_one (ps_while (passes_of rfl) (PW.pt (pw_and (pt_cmpR op_lt (pv 3) (pe_callB call_len rfl g.len rfl (pa_cons (pv 0) pa_nil)) (nomark _)) (pw_and1 (pt_cmpR op_in_sign (pe_ix ix_str (pv 0) (pv 3) (fun _ _ => rfl)) (pe_gc g.SIGNS) (by with_unfolding_all rfl)))))
            (pss_one (ps_aug (i := 3) sc_tokens_of.nd rfl (Or.inl rfl) pe_int ip_add))))
          pss_nil)
        (pss_cons (ps_if (pt_cmpR op_ne (pe_ix ix_str (pv 0) (pv 2) (fun _ _ => rfl)) pe_str (nomark _))
          (pss_one (ps_expr (pe_bm PySem.F.plainAttrs_list PySem.F.slot_list_append PySem.F.type_list_append mt_append (pv 1) (pa_cons (pe_tup (pa_cons (pe_slice sl_str (pv 0) (po_some (pv 2)) (po_some (pv 3))) (pa_cons (pe_op op_add (pv 2) pe_int) pa_nil))) pa_nil))))
          pss_nil)
        (pss_one (ps_set (i := 2) sc_tokens_of.nd rfl (by first | exact Or.inl rfl | exact Or.inr rfl) (pv 3)))))))
      (pss_one (ps_ret (pe_op op_cat (pv 1) (pe_lst (pa_cons (pe_tup (pa_cons pe_str (pa_cons (pe_op op_add (pe_callB call_len rfl g.len rfl (pa_cons (pv 0) pa_nil)) pe_int) pa_nil))) pa_nil))))))), ?_⟩) (fun _ _ _ _ _ _ us hl => match us, hl with | [_], _ => rfl)
  obtain ⟨x, rfl, hl, fin⟩ := h
  have hsz := len20 (show x.length ≤ 2 ^ 20 by omega)
  have hlt := TL.len_tl x
  refine ⟨Nat.zero_le _, fun q hq => ⟨_, _, rfl, ?_⟩⟩
  refine ⟨fun m σ H1 => ∃ (i : Nat) (us : List V) (e : Option V), m = x.length - i ∧ σ = [some (.str x), some (.ref q), some (.int i), e] ∧ TkAt H H1 x q i us,
    ⟨x.length - 0, 0, [], none, rfl, rfl, (Kp.refl [] H).new hq _, upd_same, Nat.zero_le _, Nat.le_refl _, [], x.length, .nil, rfl, by omega⟩, ?_⟩
  rintro m σ H1 ⟨i, us, e, rfl, rfl, T⟩
  refine ⟨_, rfl, _, rfl, _, _, rfl, ⟨hsz, rfl⟩, _, _, rfl, rfl, _, rfl, ite2 (fun h1 => ?_) (fun h1 => ?_)⟩
  · have hi : i < x.length := by have := of_decide_eq_true h1; omega
    obtain ⟨c, hc, hat, hg⟩ := at_n hi
    refine ⟨_, fun σ' H' z => z, ?_⟩
    refine ⟨_, rfl, _, _, rfl, rfl, ?_⟩
    -- behind the inner loop
    have rest : ∀ (D : Ends), D.nx = (fun σ' H' => ∃ m', m' < x.length - i ∧ ∃ (i : Nat) (us : List V) (e : Option V), m' = x.length - i ∧ σ' = [some (.str x), some (.ref q), some (.int i), e] ∧ TkAt H H' x q i us) → ∀ e2 : Nat, e2 = endT (TL.tl x) i →
        tSeq (tIfS (tTest (tOp rNe (tOp rIxS (tVar 0) (tVar 2)) (tC (.str " ")))) (tDrop (tBM K "list" rAppend (tVar 1) (tCons (tTup (tCons (tSl rSlS (tVar 0) (tPart (tVar 2)) (tPart (tVar 3))) (tCons (tOp (rI0 fun i j => .int (i + j)) (tVar 2) (tC (.int 1))) tNil))) tNil))) tNext)
          (tAsg (tVar 3) (gName 2)) D [some (.str x), some (.ref q), some (.int i), some (.int e2)] H1 := by
      intro D hD e2 he2
      subst he2
      have g := endT_gt (TL.tl x) i
      have g2 := endT_le (TL.tl x) (i := i) (by rw [← hlt]; exact hi)
      rw [← hlt] at g2
      refine ⟨_, rfl, _, rfl, _, _, c, rfl, rfl, hsz, hat, rfl, _, rfl, ite2 (fun h2 => ?_) (fun h2 => ?_)⟩
      · have h2' : c ≠ 32 := fun z => by
          rw [decide_eq_true (chr32.mpr z)] at h2
          cases h2
        refine ⟨_, rfl, .inl ⟨rfl, _, SqL.of T.at_⟩, ?_⟩
        refine ⟨_, rfl, _, rfl, _, rfl, _, rfl, _, rfl, _, rfl, hsz, _, rfl, _, _, rfl, rfl, (by show 2 ≤ sizeLine; decide), fun p hp => ?_⟩
        refine ⟨_, _, _, rfl, rfl, by rw [upd_ne (ne_of_none T.at_ hp)]; exact T.at_, ?_, ?_⟩
        · have := T.le
          rw [sizeLine_eq]
          omega
        · refine ⟨_, rfl, ?_⟩
          rw [hD]
          refine ⟨x.length - endT (TL.tl x) i, by omega, endT (TL.tl x) i, us ++ [.ref p], some (.int (endT (TL.tl x) i)), rfl, rfl, ?_⟩
          rw [cut_nat (by omega) g2]
          exact T.put hi (by rw [hg]; exact h2') ((T.kp.fresh hp) ▸ hq) hp
      · refine ⟨_, rfl, ?_⟩
        rw [hD]
        refine ⟨x.length - endT (TL.tl x) i, by omega, endT (TL.tl x) i, us, some (.int (endT (TL.tl x) i)), rfl, rfl, T.skip hi ?_⟩
        rw [hg]
        exact chr32.mp (by simpa using h2)
    refine ⟨_, rfl, _, rfl, _, _, c, rfl, rfl, hsz, hat, c, _, rfl, rfl, _, rfl, ite2 (fun h2 => ?_) (fun h2 => ?_)⟩
    · have h2' : isSg c = true := h2
      refine ⟨fun m σ H2 => ∃ e : Nat, m = x.length - e ∧ σ = [some (.str x), some (.ref q), some (.int i), some (.int e)] ∧ H2 = H1 ∧ i < e ∧ e ≤ x.length ∧ e + ((TL.tl x).drop e |>.takeWhile isSg).length = endT (TL.tl x) i,
        ⟨_, i + 1, rfl, rfl, rfl, by omega, by omega, by unfold endT; rw [if_pos (by rw [hg]; exact h2')]⟩, ?_⟩
      rintro m σ H2 ⟨e, rfl, rfl, rfl, he1, he2, he3⟩
      refine ⟨_, rfl, _, rfl, _, _, rfl, ⟨hsz, rfl⟩, _, _, rfl, rfl, _, rfl, ite2 (fun h3 => ?_) (fun h3 => ?_)⟩
      · have he : e < x.length := by have := of_decide_eq_true h3; omega
        obtain ⟨c2, hc2, hat2, hg2⟩ := at_n he
        have rs := run_step (L := TL.tl x) (e := e) (by rw [← hlt]; exact he)
        rw [hg2] at rs
        refine ⟨_, rfl, _, rfl, _, _, c2, rfl, rfl, hsz, hat2, c2, _, rfl, rfl, _, rfl, ite2 (fun h4 => ?_) (fun h4 => ?_)⟩
        · rw [if_pos (show isSg c2 = true from h4)] at rs
          refine ⟨_, fun σ' H' z => z, _, rfl, _, _, rfl, rfl, x.length - (e + 1), by omega, e + 1, rfl, rfl, rfl, by omega, by omega, by omega⟩
        · rw [if_neg (show ¬ isSg c2 = true from h4)] at rs
          exact rest _ rfl e (by omega)
      · have he : x.length ≤ e := by simp at h3; omega
        have re := run_end (L := TL.tl x) (e := e) (by rw [← hlt]; exact he)
        exact rest _ rfl e (by omega)
    · have h2' : ¬ isSg c = true := h2
      exact rest _ rfl (i + 1) (by unfold endT; rw [if_neg (by rw [hg]; exact h2')])
  · have hi : x.length ≤ i := by simp at h1; omega
    obtain ⟨done, f, t1, t2, t3⟩ := T.ex
    have el : lexF (TL.tl x) f i = [] := by
      cases f with
      | zero => rfl
      | succ f => unfold lexF; rw [if_neg (by rw [← hlt]; omega)]
    rw [el, List.append_nil] at t2
    refine ⟨_, rfl, _, rfl, _, _, rfl, ⟨hsz, rfl⟩, _, _, rfl, rfl, (by show 2 ≤ sizeLine; decide), fun p1 hp1 => ⟨(by show 1 ≤ sizeLine; decide), fun p2 hp2 => ?_⟩⟩
    have q1 : q ≠ p1 := ne_of_none T.at_ hp1
    have q2 : q ≠ p2 := ne_of_none (by rw [upd_ne q1]; exact T.at_) hp2
    have u1 : Tu H1 (upd H1 p1 (.tup [.str "", .int ((x.length : Nat) + 1)])) := Tu.new hp1
    have u2 : Tu (upd H1 p1 (.tup [.str "", .int ((x.length : Nat) + 1)])) (upd (upd H1 p1 (.tup [.str "", .int ((x.length : Nat) + 1)])) p2 (.lst [.ref p1])) := Tu.new hp2
    have k2 := (T.kp.new hp1 (.tup [.str "", .int ((x.length : Nat) + 1)])).new hp2 (.lst [.ref p1])
    refine ⟨q, p2, us, [.ref p1], rfl, rfl, by rw [upd_ne q2, upd_ne q1]; exact T.at_, upd_same, ?_, fun p hp => ?_⟩
    · have := T.le
      have := T.hi
      show us.length + 1 ≤ _
      rw [sizeLine_eq]
      omega
    · have p21 : p1 ≠ p2 := ne_of_none upd_same hp2
      refine fin _ p (us ++ [.ref p1]) (k2.new hp _) (k2.fresh hp) upd_same ?_
      unfold toks
      rw [List.map_append, ← t2]
      exact (t1.tu ((u1.trans u2).trans (Tu.new hp))).app (TDs.one (TD.tup (xs := [.str "", .int ((x.length : Nat) + 1)]) (by rw [upd_ne (ne_of_none (show upd (upd H1 p1 (.tup [.str "", .int ((x.length : Nat) + 1)])) p2 (.lst [.ref p1]) p1 = some _ by rw [upd_ne p21, upd_same]) hp), upd_ne p21, upd_same]) (.cons (.str _) (TDs.one (.int _)))))
end T65
end
section
/-! W5: the law's tokens. -/
namespace T65
open PySem PySem.Spec PyProof.Rows L2
theorem ok_law_tokens {P : Program} {w : World} {K : PySem.W.Frag} {mg : Str → Option Value} {base : Heap} {C S f : Addr} {fd : FuncData} (g : G65 K mg C S) (F : Fn K "_law_tokens" s_law_tokens f fd) (gF : mg "_law_tokens" = some (.ref f)) : Cal P w K mg base CX0 1 "_law_tokens" p_law_tokens spToks := by
  refine cal_of F gF sc_law_tokens (fun vs H Q E h => by obtain ⟨x, rfl, _⟩ := h; rfl) (fun cdv A outer s H vs Q E hr h => ⟨_,
      (pss_cons (ps_par3 (i := 1) (j := 2) (l := 3) rfl sc_law_tokens.nd rfl rfl rfl (by decide) (by decide) (by decide) rfl rfl rfl (pa_cons pe_str (pa_cons (pe_lst pa_nil) (pa_cons pe_int pa_nil))) rfl)
      (pss_cons (ps_while (passes_of rfl) (pt_cmpR op_lt (pv 3) (pe_callB call_len rfl g.len rfl (pa_cons (pv 0) pa_nil)) (nomark _))
        (pss_cons (ps_set (i := 4) sc_law_tokens.nd rfl (by first | exact Or.inl rfl | exact Or.inr rfl) (pe_op op_add (pv 3) pe_int))
        (pss_cons (ps_if (pt_cmpR op_in_sign (pe_ix ix_str (pv 0) (pv 3) (fun _ _ => rfl)) (pv 1) (by with_unfolding_all rfl))
          (pss_one (ps_while (passes_of rfl) (PW.pt (pw_and (pt_cmpR op_lt (pv 4) (pe_callB call_len rfl g.len rfl (pa_cons (pv 0) pa_nil)) (nomark _)) (pw_and1 (pt_cmpR op_in_sign (pe_ix ix_str (pv 0) (pv 4) (fun _ _ => rfl)) (pv 1) (by with_unfolding_all rfl)))))
            (pss_one (ps_set (i := 4) sc_law_tokens.nd rfl (by first | exact Or.inl rfl | exact Or.inr rfl) (pe_op op_add (pv 4) pe_int)))))
          pss_nil)
        (pss_cons (ps_if (pt_cmpR op_ne (pe_ix ix_str (pv 0) (pv 3) (fun _ _ => rfl)) pe_str (nomark _))
          (pss_one (ps_expr (pe_bm PySem.F.plainAttrs_list PySem.F.slot_list_append PySem.F.type_list_append mt_append (pv 2) (pa_cons (pe_tup (pa_cons (pe_slice sl_str (pv 0) (po_some (pv 3)) (po_some (pv 4))) (pa_cons (pe_op op_add (pv 3) pe_int) pa_nil))) pa_nil))))
          pss_nil)
        (pss_one (ps_set (i := 3) sc_law_tokens.nd rfl (by first | exact Or.inl rfl | exact Or.inr rfl) (pv 4)))))))
      (pss_one (ps_ret (pe_op op_cat (pv 2) (pe_lst (pa_cons (pe_tup (pa_cons pe_str (pa_cons (pe_op op_add (pe_callB call_len rfl g.len rfl (pa_cons (pv 0) pa_nil)) pe_int) pa_nil))) pa_nil))))))), ?_⟩) (fun _ _ _ _ _ _ us hl => match us, hl with | [_], _ => rfl)
  obtain ⟨x, rfl, hl, fin⟩ := h
  have hsz := len20 (show x.length ≤ 2 ^ 20 by omega)
  have hlt := TL.len_tl x
  refine ⟨Nat.zero_le _, fun q hq => ⟨_, _, _, rfl, ?_⟩⟩
  refine ⟨fun m σ H1 => ∃ (i : Nat) (us : List V) (e : Option V), m = x.length - i ∧ σ = [some (.str x), some (.str zSigns), some (.ref q), some (.int i), e] ∧ TkAt H H1 x q i us,
    ⟨x.length - 0, 0, [], none, rfl, rfl, (Kp.refl [] H).new hq _, upd_same, Nat.zero_le _, Nat.le_refl _, [], x.length, .nil, rfl, by omega⟩, ?_⟩
  rintro m σ H1 ⟨i, us, e, rfl, rfl, T⟩
  refine ⟨_, rfl, _, rfl, _, _, rfl, ⟨hsz, rfl⟩, _, _, rfl, rfl, _, rfl, ite2 (fun h1 => ?_) (fun h1 => ?_)⟩
  · have hi : i < x.length := by have := of_decide_eq_true h1; omega
    obtain ⟨c, hc, hat, hg⟩ := at_n hi
    refine ⟨_, fun σ' H' z => z, ?_⟩
    refine ⟨_, rfl, _, _, rfl, rfl, ?_⟩
    -- behind the inner loop
    have rest : ∀ (D : Ends), D.nx = (fun σ' H' => ∃ m', m' < x.length - i ∧ ∃ (i : Nat) (us : List V) (e : Option V), m' = x.length - i ∧ σ' = [some (.str x), some (.str zSigns), some (.ref q), some (.int i), e] ∧ TkAt H H' x q i us) → ∀ e2 : Nat, e2 = endT (TL.tl x) i →
        tSeq (tIfS (tTest (tOp rNe (tOp rIxS (tVar 0) (tVar 3)) (tC (.str " ")))) (tDrop (tBM K "list" rAppend (tVar 2) (tCons (tTup (tCons (tSl rSlS (tVar 0) (tPart (tVar 3)) (tPart (tVar 4))) (tCons (tOp (rI0 fun i j => .int (i + j)) (tVar 3) (tC (.int 1))) tNil))) tNil))) tNext)
          (tAsg (tVar 4) (gName 3)) D [some (.str x), some (.str zSigns), some (.ref q), some (.int i), some (.int e2)] H1 := by
      intro D hD e2 he2
      subst he2
      have g := endT_gt (TL.tl x) i
      have g2 := endT_le (TL.tl x) (i := i) (by rw [← hlt]; exact hi)
      rw [← hlt] at g2
      refine ⟨_, rfl, _, rfl, _, _, c, rfl, rfl, hsz, hat, rfl, _, rfl, ite2 (fun h2 => ?_) (fun h2 => ?_)⟩
      · have h2' : c ≠ 32 := fun z => by
          rw [decide_eq_true (chr32.mpr z)] at h2
          cases h2
        refine ⟨_, rfl, .inl ⟨rfl, _, SqL.of T.at_⟩, ?_⟩
        refine ⟨_, rfl, _, rfl, _, rfl, _, rfl, _, rfl, _, rfl, hsz, _, rfl, _, _, rfl, rfl, (by show 2 ≤ sizeLine; decide), fun p hp => ?_⟩
        refine ⟨_, _, _, rfl, rfl, by rw [upd_ne (ne_of_none T.at_ hp)]; exact T.at_, ?_, ?_⟩
        · have := T.le
          rw [sizeLine_eq]
          omega
        · refine ⟨_, rfl, ?_⟩
          rw [hD]
          refine ⟨x.length - endT (TL.tl x) i, by omega, endT (TL.tl x) i, us ++ [.ref p], some (.int (endT (TL.tl x) i)), rfl, rfl, ?_⟩
          rw [cut_nat (by omega) g2]
          exact T.put hi (by rw [hg]; exact h2') ((T.kp.fresh hp) ▸ hq) hp
      · refine ⟨_, rfl, ?_⟩
        rw [hD]
        refine ⟨x.length - endT (TL.tl x) i, by omega, endT (TL.tl x) i, us, some (.int (endT (TL.tl x) i)), rfl, rfl, T.skip hi ?_⟩
        rw [hg]
        exact chr32.mp (by simpa using h2)
    refine ⟨_, rfl, _, rfl, _, _, c, rfl, rfl, hsz, hat, _, rfl, c, _, rfl, rfl, _, rfl, ite2 (fun h2 => ?_) (fun h2 => ?_)⟩
    · have h2' : isSg c = true := h2
      refine ⟨fun m σ H2 => ∃ e : Nat, m = x.length - e ∧ σ = [some (.str x), some (.str zSigns), some (.ref q), some (.int i), some (.int e)] ∧ H2 = H1 ∧ i < e ∧ e ≤ x.length ∧ e + ((TL.tl x).drop e |>.takeWhile isSg).length = endT (TL.tl x) i,
        ⟨_, i + 1, rfl, rfl, rfl, by omega, by omega, by unfold endT; rw [if_pos (by rw [hg]; exact h2')]⟩, ?_⟩
      rintro m σ H2 ⟨e, rfl, rfl, rfl, he1, he2, he3⟩
      refine ⟨_, rfl, _, rfl, _, _, rfl, ⟨hsz, rfl⟩, _, _, rfl, rfl, _, rfl, ite2 (fun h3 => ?_) (fun h3 => ?_)⟩
      · have he : e < x.length := by have := of_decide_eq_true h3; omega
        obtain ⟨c2, hc2, hat2, hg2⟩ := at_n he
        have rs := run_step (L := TL.tl x) (e := e) (by rw [← hlt]; exact he)
        rw [hg2] at rs
        refine ⟨_, rfl, _, rfl, _, _, c2, rfl, rfl, hsz, hat2, _, rfl, c2, _, rfl, rfl, _, rfl, ite2 (fun h4 => ?_) (fun h4 => ?_)⟩
        · rw [if_pos (show isSg c2 = true from h4)] at rs
          refine ⟨_, fun σ' H' z => z, _, rfl, _, _, rfl, rfl, x.length - (e + 1), by omega, e + 1, rfl, rfl, rfl, by omega, by omega, by omega⟩
        · rw [if_neg (show ¬ isSg c2 = true from h4)] at rs
          exact rest _ rfl e (by omega)
      · have he : x.length ≤ e := by simp at h3; omega
        have re := run_end (L := TL.tl x) (e := e) (by rw [← hlt]; exact he)
        exact rest _ rfl e (by omega)
    · have h2' : ¬ isSg c = true := h2
      exact rest _ rfl (i + 1) (by unfold endT; rw [if_neg (by rw [hg]; exact h2')])
  · have hi : x.length ≤ i := by simp at h1; omega
    obtain ⟨done, f, t1, t2, t3⟩ := T.ex
    have el : lexF (TL.tl x) f i = [] := by
      cases f with
      | zero => rfl
      | succ f => unfold lexF; rw [if_neg (by rw [← hlt]; omega)]
    rw [el, List.append_nil] at t2
    refine ⟨_, rfl, _, rfl, _, _, rfl, ⟨hsz, rfl⟩, _, _, rfl, rfl, (by show 2 ≤ sizeLine; decide), fun p1 hp1 => ⟨(by show 1 ≤ sizeLine; decide), fun p2 hp2 => ?_⟩⟩
    have q1 : q ≠ p1 := ne_of_none T.at_ hp1
    have q2 : q ≠ p2 := ne_of_none (by rw [upd_ne q1]; exact T.at_) hp2
    have u1 : Tu H1 (upd H1 p1 (.tup [.str "", .int ((x.length : Nat) + 1)])) := Tu.new hp1
    have u2 : Tu (upd H1 p1 (.tup [.str "", .int ((x.length : Nat) + 1)])) (upd (upd H1 p1 (.tup [.str "", .int ((x.length : Nat) + 1)])) p2 (.lst [.ref p1])) := Tu.new hp2
    have k2 := (T.kp.new hp1 (.tup [.str "", .int ((x.length : Nat) + 1)])).new hp2 (.lst [.ref p1])
    refine ⟨q, p2, us, [.ref p1], rfl, rfl, by rw [upd_ne q2, upd_ne q1]; exact T.at_, upd_same, ?_, fun p hp => ?_⟩
    · have := T.le
      have := T.hi
      show us.length + 1 ≤ _
      rw [sizeLine_eq]
      omega
    · have p21 : p1 ≠ p2 := ne_of_none upd_same hp2
      refine fin _ p (us ++ [.ref p1]) (k2.new hp _) (k2.fresh hp) upd_same ?_
      unfold toks
      rw [List.map_append, ← t2]
      exact (t1.tu ((u1.trans u2).trans (Tu.new hp))).app (TDs.one (TD.tup (xs := [.str "", .int ((x.length : Nat) + 1)]) (by rw [upd_ne (ne_of_none (show upd (upd H1 p1 (.tup [.str "", .int ((x.length : Nat) + 1)])) p2 (.lst [.ref p1]) p1 = some _ by rw [upd_ne p21, upd_same]) hp), upd_ne p21, upd_same]) (.cons (.str _) (TDs.one (.int _)))))
end T65
end
section
/-! XI: a Line and the law's reader as they stand; what raises; promises. -/
namespace T65
open PySem PySem.Spec PyProof.Rows L2
structure LnA (C : Addr) (H : Hp) (a tl : Addr) (T : TkL) (n : Nat) (s : PSt) : Prop where
  ex : ∃ (dx : Addr) (us : List V), H a = some (.ins C dx (lnF (.ref tl) (.int n) (.int s.p) (.int s.r) (.int s.l))) ∧ H tl = some (.lst us) ∧ TDs H us (T.map tokD)
  ok : TkOk T
  num : n < 2 ^ 30
  lt : s.p < T.length
structure RdA (H : Hp) (a tl : Addr) (T : TkL) (n : Nat) (s : PSt) : Prop where
  ex : ∃ (us : List V), tl ≠ a ∧ H a = some (.lst [.ref tl, .int n, .int s.p, .int s.r, .int s.l]) ∧ H tl = some (.lst us) ∧ TDs H us (T.map tokD)
  ok : TkOk T
  num : n < 2 ^ 30
  lt : s.p < T.length
theorem LnA.kp0 {C : Addr} {H H' : Hp} {a tl : Addr} {T : TkL} {n : Nat} {s : PSt} (L : LnA C H a tl T n s) (k : Kp [] H H') : LnA C H' a tl T n s := by
  obtain ⟨dx, us, h1, h2, h3⟩ := L.ex
  exact ⟨⟨dx, us, k.at0 h1, k.at0 h2, h3.tu k.tu⟩, L.ok, L.num, L.lt⟩
theorem RdA.kp0 {H H' : Hp} {a tl : Addr} {T : TkL} {n : Nat} {s : PSt} (L : RdA H a tl T n s) (k : Kp [] H H') : RdA H' a tl T n s := by
  obtain ⟨us, h0, h1, h2, h3⟩ := L.ex
  exact ⟨⟨us, h0, k.at0 h1, k.at0 h2, h3.tu k.tu⟩, L.ok, L.num, L.lt⟩
theorem LnA.mv {C : Addr} {H : Hp} {a dx tl : Addr} {us : List V} {T : TkL} {n : Nat} {s s' : PSt} (L : LnA C H a tl T n s) (h1 : H a = some (.ins C dx (lnF (.ref tl) (.int n) (.int s.p) (.int s.r) (.int s.l)))) (h2 : H tl = some (.lst us)) (h3 : TDs H us (T.map tokD)) (lt : s'.p < T.length) :
    LnA C (upd H a (.ins C dx (lnF (.ref tl) (.int n) (.int s'.p) (.int s'.r) (.int s'.l)))) a tl T n s' := by
  have ne : tl ≠ a := ne_of h2 h1 (by simp)
  exact ⟨⟨dx, us, upd_same, by rw [upd_ne ne]; exact h2, h3.tu fun b xs e => by rw [upd_ne (ne_of e h1 (by simp))]; exact e⟩, L.ok, L.num, lt⟩
theorem RdA.mv {H : Hp} {a tl : Addr} {us : List V} {T : TkL} {n : Nat} {s s' : PSt} (L : RdA H a tl T n s) (h0 : tl ≠ a) (h1 : H a = some (.lst [.ref tl, .int n, .int s.p, .int s.r, .int s.l])) (h2 : H tl = some (.lst us)) (h3 : TDs H us (T.map tokD)) (lt : s'.p < T.length) :
    RdA (upd H a (.lst [.ref tl, .int n, .int s'.p, .int s'.r, .int s'.l])) a tl T n s' :=
  ⟨⟨us, h0, upd_same, by rw [upd_ne h0]; exact h2, h3.tu fun b xs e => by rw [upd_ne (ne_of e h1 (by simp))]; exact e⟩, L.ok, L.num, lt⟩
/-- the token at the place -/
theorem tok_at {H : Hp} {us : List V} {T : TkL} {p : Nat} (h : TDs H us (T.map tokD)) (lt : p < T.length) : ∃ b : Addr, us[p]? = some (.ref b) ∧ H b = some (.tup [.str (tk T p), .int (cl T p : Nat)]) := by
  have e : (T.map tokD)[p]? = some (tokD T[p]) := by
    rw [List.getElem?_map, List.getElem?_eq_getElem lt]
    rfl
  obtain ⟨v, h1, h2⟩ := h.at2 e
  have et : tk T p = T[p].1 ∧ cl T p = T[p].2 := by
    unfold tk cl
    rw [List.getD_eq_getElem?_getD, List.getElem?_eq_getElem lt]
    exact ⟨rfl, rfl⟩
  rw [et.1, et.2]
  cases h2 with
  | tup ha hs =>
    cases hs with
    | cons q1 r =>
      cases r with
      | cons q2 r =>
        cases r
        cases q1
        cases q2
        exact ⟨_, h1, ha⟩

/-! ### what raises -/
def Err (S : Addr) (R : List Addr) (H : Hp) (n c : Nat) (E : XK) : Prop := ∀ (H' : Hp) (d : Addr), Kp R H H' → H' d = some (.xd [("column", .int (c : Nat)), ("line", .int (n : Nat))]) → E (.ref S) (some d) H'
theorem Err.mono {S : Addr} {R : List Addr} {H H1 : Hp} {n c : Nat} {E : XK} (h : Err S R H n c E) (k : Kp R H H1) : Err S R H1 n c E := fun H' d k' e => h H' d (k.trans k') e
/-- the class SyntaxProblem, ready to be raised -/
def SpK (P : Program) (w : World) (K : PySem.W.Frag) (mg : Str → Option Value) (base : Heap) (S : Addr) : Prop := ∃ (fI : Addr) (fd : FuncData), FnOk P w K mg base CX0 2 fI fd p_SyntaxProblem_init (spSPI S) ∧ Binds K fd p_SyntaxProblem_init [] ∧
  OexC K S ∧ PySem.W.findIn K (.ref S) "__init__" = some (some (.ref fI)) ∧ PySem.W.typeIn K (.ref fI) = some (.type "function")
theorem ps_sp {X : Cx} {S : Addr} {k : Nat} {W : WX} {e1 e2 : Expr} {t : TA} {p pos pos' : Pos} (sp : SpK X.prog X.w X.K X.mg X.base S) (hr : Room k X.A) (hc : X.calm = true) (tk : Takes X W) (hm : X.mg "SyntaxProblem" = some (.ref S)) (ha : PA X [e1, e2] t) (hk : 3 ≤ k := by decide) (hg : Gl X "SyntaxProblem" := by rfl)
    (he : starEach [e1, e2] X.env = (false, eval e1 X.env) :: starEach [e2] X.env := by rfl) (hpl : (backTo pos (starEach [e2] X.env)).any (·.1) = false := by rfl) :
    PS X (.Raise (some (.Call (.Name "SyntaxProblem" p) [e1, e2] [] pos)) none pos') (fun _ σ H => tMkO S (spSPI S) [] t σ H fun cls d H' => W cls d σ H') := by
  obtain ⟨fI, fd, F, hb, ox, iC, tI⟩ := sp
  exact ps_raise hc tk (pmk_oex ox iC tI F (hr.mono hk) hb .nil pass0 hg hm ha (by decide) he hpl)
theorem log30 {n : Nat} (h : n < 2 ^ 30) : ((n : Nat) : Int).natAbs.log2 < 1000 := by
  rw [Int.natAbs_natCast]
  by_cases z : n = 0
  · rw [z]
    decide
  · exact Nat.lt_trans ((Nat.log2_lt z).mpr h) (by decide)
/-- the object is made and told -/
theorem rd_sp {S : Addr} {H1 : Hp} {n c : Nat} {Q : XK} (hn : n < 2 ^ 30) (hc : c < 2 ^ 30) (h : ∀ (H' : Hp) (d : Addr), Kp [] H1 H' → H' d = some (.xd [("column", .int (c : Nat)), ("line", .int (n : Nat))]) → Q (.ref S) (some d) H') (a : Addr) (ha : H1 a = none) :
    spSPI S (.ref a :: ([V.int (n : Nat), .int (c : Nat)] ++ [])) (upd H1 a (exo a S none)) (fun v H2 => v = .non ∧ ∃ (d : Addr) (fs : List (Str × V)), H2 a = some (exo a S (some d)) ∧ H2 d = some (exd d fs) ∧ H1 d = none ∧ Q (.ref S) (some d) (upd (del H2 a) d (.xd fs))) (fun _ _ _ => False) := by
  refine ⟨a, _, _, rfl, upd_same, log30 hn, log30 hc, fun d H' hd hda h1 h2 hk => ?_⟩
  have hd1 : H1 d = none := by
    rw [upd_ne hda] at hd
    exact hd
  refine ⟨rfl, d, _, h1, h2, hd1, h _ d ?_ upd_same⟩
  have same : ∀ b o, H1 b = some o → upd (del H' a) d (.xd [("column", .int (c : Nat)), ("line", .int (n : Nat))]) b = some o := fun b o e => by
    have b1 : b ≠ a := ne_of_none e ha
    have b2 : b ≠ d := ne_of_none e hd1
    rw [upd_ne b2]
    unfold del
    rw [if_neg b1, hk b b1 b2, upd_ne b1]
    exact e
  refine ⟨fun b o _ e => same b o e, ⟨fun b xs e => same b _ e, fun b xs e => same b _ e⟩, fun b e => ?_⟩
  cases z : H1 b with
  | none => exact absurd z e
  | some o => rw [same b o z]; simp

/-! ### promises of the Line's methods -/
def spPeek (C : Addr) : Sp := fun vs H Q _ => ∃ (a tl : Addr) (T : TkL) (n : Nat) (s : PSt), vs = [.ref a] ∧ LnA C H a tl T n s ∧ Q (.str (tk T s.p)) H
def spTake (C S : Addr) : Sp := fun vs H Q E => ∃ (a tl : Addr) (ok : Bool) (T : TkL) (n : Nat) (s : PSt), vs = [.ref a, .bl ok] ∧ LnA C H a tl T n s ∧
  (tk T s.p ≠ "" → ok = true → ∀ H', Kp [a] H H' → LnA C H' a tl T n ⟨s.p + 1, s.r, s.l⟩ → Q (.str (tk T s.p)) H') ∧ (tk T s.p = "" ∨ ok = false → Err S [a] H n (cl T s.p) E)
def spEnd (C S : Addr) : Sp := fun vs H Q E => ∃ (a tl : Addr) (T : TkL) (n : Nat) (s : PSt), vs = [.ref a] ∧ LnA C H a tl T n s ∧ (tk T s.p = "" → Q .non H) ∧ (tk T s.p ≠ "" → Err S [a] H n (cl T s.p) E)
def spInteger (C S : Addr) : Sp := fun vs H Q E => ∃ (a tl : Addr) (T : TkL) (n m : Nat) (s : PSt), vs = [.ref a, .int m] ∧ LnA C H a tl T n s ∧ Most m ∧
  (∀ i, figsM (tk T s.p) m = some i → ∀ H', Kp [a] H H' → LnA C H' a tl T n ⟨s.p + 1, s.r, s.l⟩ → Q (.int (i : Nat)) H') ∧ (figsM (tk T s.p) m = none → Err S [a] H n (cl T s.p) E)
def Does (C S : Addr) (r : Except Nat (PyData × PSt)) (a tl : Addr) (T : TkL) (n : Nat) (H : Hp) (Q : VK) (E : XK) : Prop := match r with
  | .ok (d, s) => ∀ (H' : Hp) (v : V), Kp [a] H H' → LnA C H' a tl T n s → TD H' v d → Q v H'
  | .error c => Err S [a] H n c E
theorem Does.mono {C S : Addr} {r : Except Nat (PyData × PSt)} {a tl : Addr} {T : TkL} {n : Nat} {H H1 : Hp} {Q : VK} {E : XK} (h : Does C S r a tl T n H Q E) (k : Kp [a] H H1) : Does C S r a tl T n H1 Q E := by
  unfold Does at h ⊢
  split
  · next d s => exact fun H' v k' => h H' v (k.trans k')
  · next c => exact Err.mono h k
end T65
end
section
/-! W6: the Line's small methods. -/
namespace T65
open PySem PySem.Spec PyProof.Rows L2
abbrev Mn (K : PySem.W.Frag) (x q : Str) (st : Stmt) (f : Addr) (fd : FuncData) : Prop := FunD K x q (defArgs st) (defBody st) (defScope st) [] [] f fd
theorem ok_peek {P : Program} {w : World} {K : PySem.W.Frag} {mg : Str → Option Value} {base : Heap} {C S f : Addr} {fd : FuncData} (g : G65 K mg C S) (F : Mn K "peek" "Line.peek" s_Line_peek f fd) (gF : Meth K C "peek" f) : MCal P w K mg base CX0 1 C "peek" p_Line_peek (spPeek C) := by
  refine mcal_of F gF sc_Line_peek (fun vs H Q E h => by obtain ⟨a, tl, T, n, s, rfl, _⟩ := h; rfl) (fun cdv A outer s H vs Q E hr h => ⟨_,
      (pss_one (ps_ret (pe_ix ix_tup (pe_ix ix_list (pe_fld (pv 0) rfl) (pe_fld (pv 0) rfl) (fun _ _ => rfl)) pe_int (fun _ _ => rfl)))), ?_⟩) (fun _ _ _ _ _ _ us hl => match us, hl with | [_], _ => rfl)
  obtain ⟨a, tl, T, n, s, rfl, L, q⟩ := h
  obtain ⟨dx, us, h1, h2, h3⟩ := L.ex
  obtain ⟨b, e1, e2⟩ := tok_at h3 L.lt
  exact ⟨_, rfl, a, C, dx, _, _, rfl, h1, g.cls, g.tokens, rfl, _, rfl, a, C, dx, _, _, rfl, h1, g.cls, g.place, rfl, tl, us, _, _, rfl, rfl, SqL.of h2, atI_nat e1, b, _, 0, _, rfl, rfl, SqT.of e2, rfl, q⟩
theorem ok_take {P : Program} {w : World} {K : PySem.W.Frag} {mg : Str → Option Value} {base : Heap} {C S f : Addr} {fd : FuncData} (g : G65 K mg C S) (sp : SpK P w K mg base S) (F : Mn K "take" "Line.take" s_Line_take f fd) (gF : Meth K C "take" f) : MCal P w K mg base (L2.CX P w) 4 C "take" p_Line_take (spTake C S) := by
  refine mcal_of F gF sc_Line_take (fun vs H Q E h => by obtain ⟨a, tl, ok, T, n, s, rfl, _⟩ := h; rfl) (fun cdv A outer s H vs Q E hr h => ⟨_,
      (pss_cons (ps_asg (pe_ix ix_list (pe_fld (pv 0) rfl) (pe_fld (pv 0) rfl) (fun _ _ => rfl)) (pg_tup rfl (pgs_cons (pg_name (i := 2) sc_Line_take.nd rfl (by first | exact Or.inl rfl | exact Or.inr rfl)) (pgs_cons (pg_name (i := 3) sc_Line_take.nd rfl (by first | exact Or.inl rfl | exact Or.inr rfl)) pgs_nil))))
      (pss_cons (ps_if (PW.pt (pw_or (pt_cmpR op_eq (pv 2) pe_str (nomark _)) (pw_or1 (pt_not (pt_val (pv 1))))))
        (pss_one (ps_sp sp hr rfl (takes_of rfl rfl rfl rfl) g.SyntaxProblem (pa_cons (pe_fld (pv 0) rfl) (pa_cons (pv 3) pa_nil))))
        pss_nil)
      (pss_cons (ps_fldaug (pv 0) pe_int in_add)
      (pss_one (ps_ret (pv 2)))))), ?_⟩) (fun _ _ _ _ _ _ us hl => match us, hl with | [_, _], _ => rfl)
  obtain ⟨a, tl, ok, T, n, s, rfl, L, qy, qn⟩ := h
  obtain ⟨dx, us, h1, h2, h3⟩ := L.ex
  obtain ⟨b, e1, e2⟩ := tok_at h3 L.lt
  have rais : tk T s.p = "" ∨ ok = false → ∀ (σ : L2.St), σ[0]? = some (some (.ref a)) → σ[3]? = some (some (.int (cl T s.p : Nat))) → tMkO S (spSPI S) [] (tCons (tFld K (tVar 0) "number") (tCons (tVar 3) tNil)) σ H fun cls d H' => E cls d H' := fun z σ s0 s3 =>
    ⟨_, s0, a, C, dx, _, _, rfl, h1, g.cls, g.number, rfl, _, s3, by show 2 ≤ 1000; decide, fun x hx => rd_sp L.num (L.ok.col _) (fun H' d k e => qn z H' d k.any e) x hx⟩
  refine ⟨_, rfl, a, C, dx, _, _, rfl, h1, g.cls, g.tokens, rfl, _, rfl, a, C, dx, _, _, rfl, h1, g.cls, g.place, rfl, tl, us, _, _, rfl, rfl, SqL.of h2, atI_nat e1, b, _, rfl, SqT.of e2, rfl, _, _, rfl, _, _, rfl, rfl, ?_⟩
  refine ⟨_, rfl, rfl, _, rfl, ite2 (fun h4 => ?_) (fun h4 => ?_)⟩
  · exact rais (.inl (by simpa using h4)) _ rfl rfl
  · refine ⟨_, rfl, _, rfl, ?_⟩
    cases ok with
    | false => exact rais (.inr rfl) _ rfl rfl
    | true =>
      have h4' : tk T s.p ≠ "" := by simpa using h4
      refine ⟨_, rfl, a, C, dx, _, _, rfl, h1, g.cls, g.place, rfl, _, _, rfl, rfl, dx, _, h1, by show 5 < 1000; decide, _, rfl, ?_⟩
      rw [putF_place]
      exact qy h4' rfl _ ((Kp.refl [a] H).upR (List.mem_singleton.mpr rfl) (by rw [h1]; exact True.intro) _) (L.mv (s' := ⟨s.p + 1, s.r, s.l⟩) h1 h2 h3 (L.ok.last _ L.lt h4'))
end T65
end
section
/-! W7: end, integer, __init__, some_letters of a Line. -/
namespace T65
open PySem PySem.Spec PyProof.Rows L2
theorem ok_end {P : Program} {w : World} {K : PySem.W.Frag} {mg : Str → Option Value} {base : Heap} {C S f : Addr} {fd : FuncData} (g : G65 K mg C S) (F : Mn K "end" "Line.end" s_Line_end f fd) (gF : Meth K C "end" f)
    (m_peek : MCal P w K mg base CX0 1 C "peek" p_Line_peek (spPeek C)) (m_take : MCal P w K mg base (L2.CX P w) 4 C "take" p_Line_take (spTake C S)) : MCal P w K mg base (L2.CX P w) 5 C "end" p_Line_end (spEnd C S) := by
  refine mcal_of F gF sc_Line_end (fun vs H Q E h => by obtain ⟨a, tl, T, n, s, rfl, _⟩ := h; rfl) (fun cdv A outer s H vs Q E hr h => ⟨_,
      (pss_one (ps_if (pt_cmpR op_ne (pe_mcal0 m_peek g.cls (pv 0) hr pass0) pe_str (nomark _))
        (pss_one (ps_expr (pe_mcal m_take g.cls (pv 0) hr tkp (pa_cons pe_bl pa_nil))))
        pss_nil)), ?_⟩) (fun _ _ _ _ _ _ us hl => match us, hl with | [_], _ => rfl)
  obtain ⟨a, tl, T, n, s, rfl, L, qy, qn⟩ := h
  obtain ⟨dx, us, h1, h2, h3⟩ := L.ex
  refine ⟨_, rfl, a, dx, _, rfl, h1, rfl, a, tl, T, n, s, rfl, L, rfl, _, rfl, ite2 (fun h4 => ?_) (fun h4 => ?_)⟩
  · have h4' : tk T s.p ≠ "" := by simpa using h4
    exact ⟨_, rfl, a, dx, _, rfl, h1, rfl, a, tl, false, T, n, s, rfl, L, (fun _ z => by cases z), fun _ => qn h4'⟩
  · exact qy (by simpa using h4)
theorem opt_non {o : Option Nat} : (!decide (optI o = V.non)) = o.isSome := by
  cases o with
  | none => rfl
  | some n => rfl
theorem figs_empty (m : Nat) : figsM "" m = none := rfl
theorem ok_integer {P : Program} {w : World} {K : PySem.W.Frag} {mg : Str → Option Value} {base : Heap} {C S f : Addr} {fd : FuncData} (g : G65 K mg C S) (F : Mn K "integer" "Line.integer" s_Line_integer f fd) (gF : Meth K C "integer" f)
    (m_peek : MCal P w K mg base CX0 1 C "peek" p_Line_peek (spPeek C)) (m_take : MCal P w K mg base (L2.CX P w) 4 C "take" p_Line_take (spTake C S)) (c_figures_in : Cal P w K mg base CX0 1 "figures_in" p_figures_in spFigs) : MCal P w K mg base (L2.CX P w) 5 C "integer" p_Line_integer (spInteger C S) := by
  refine mcal_of F gF sc_Line_integer (fun vs H Q E h => by obtain ⟨a, tl, T, n, m, s, rfl, _⟩ := h; rfl) (fun cdv A outer s H vs Q E hr h => ⟨_,
      (pss_cons (ps_set (i := 2) sc_Line_integer.nd rfl (by first | exact Or.inl rfl | exact Or.inr rfl) (pe_cal c_figures_in hr pass0 (pa_cons (pe_mcal0 m_peek g.cls (pv 0) hr pass0) (pa_cons (pv 1) pa_nil))))
      (pss_cons (ps_expr (pe_mcal m_take g.cls (pv 0) hr tkp (pa_cons (pe_cmpR op_notN (pv 2) pe_non (nomark _)) pa_nil)))
      (pss_one (ps_ret (pv 2))))), ?_⟩) (fun _ _ _ _ _ _ us hl => match us, hl with | [_, _], _ => rfl)
  obtain ⟨a, tl, T, n, m, s, rfl, L, hm, qy, qn⟩ := h
  obtain ⟨dx, us, h1, h2, h3⟩ := L.ex
  refine ⟨_, rfl, a, dx, _, rfl, h1, rfl, a, tl, T, n, s, rfl, L, _, rfl, _, m, rfl, L.ok.small _, hm, fun H1 k1 => ?_⟩
  have L1 := L.kp0 k1
  refine ⟨_, rfl, a, dx, _, rfl, k1.at0 h1, rfl, _, rfl, rfl, a, tl, _, T, n, s, rfl, L1, fun hne hk H2 k2 L2 => ?_, fun hz => ?_⟩
  · rw [opt_non] at hk
    obtain ⟨i, hi⟩ := Option.isSome_iff_exists.mp hk
    refine ⟨_, rfl, ?_⟩
    rw [hi]
    exact qy i hi H2 (k1.any.trans k2) L2
  · rw [opt_non] at hz
    refine Err.mono (qn ?_) k1.any
    rcases hz with z | z
    · rw [z]
      rfl
    · cases e : figsM (tk T s.p) m with
      | none => rfl
      | some i => rw [e] at z; cases z
/-- Line(text, number), its fields -/
def spInit (C : Addr) : Sp := fun vs H Q _ => ∃ (a dx : Addr) (x : Str) (n : Nat), vs = [.ref a, .str x, .int (n : Nat)] ∧ H a = some (.ins C dx []) ∧ x.length < 2 ^ 19 ∧ n < 2 ^ 30 ∧ ∀ H' l, Kp [a] H H' → LnA C H' a l (toks x) n ⟨0, 0, 0⟩ → Q .non H'
theorem ok_init {P : Program} {w : World} {K : PySem.W.Frag} {mg : Str → Option Value} {base : Heap} {C S f : Addr} {fd : FuncData} (g : G65 K mg C S) (F : Mn K "__init__" "Line.__init__" s_Line_init f fd)
    (c_tokens_of : Cal P w K mg base CX0 1 "tokens_of" p_tokens_of spToks) : FnOk P w K mg base CX0 2 f fd p_Line_init (spInit C) := by
  refine F.ok sc_Line_init (fun vs H Q E h => by obtain ⟨a, dx, x, n, rfl, _⟩ := h; rfl) (fun cdv A outer s H vs Q E hr h => ⟨_,
      (pss_cons (ps_fld (pv 0) (pe_cal c_tokens_of hr pass0 (pa_cons (pv 1) pa_nil)) rfl)
      (pss_cons (ps_fld (pv 0) (pv 2) rfl)
      (pss_cons (ps_fld (pv 0) pe_int rfl)
      (pss_cons (ps_fld (pv 0) pe_int rfl)
      (pss_one (ps_fld (pv 0) pe_int rfl)))))), ?_⟩)
  obtain ⟨a, dx, x, n, rfl, ha, hx, hn, q⟩ := h
  refine ⟨_, rfl, x, rfl, hx, fun H1 l us k1 hl h1 t1 => ?_⟩
  have a1 := k1.at0 ha
  refine ⟨_, rfl, a, C, dx, _, rfl, a1, g.cls, g.tokens, by show 0 < 1000; decide, ?_⟩
  refine ⟨_, rfl, _, rfl, a, C, dx, _, rfl, upd_same, g.cls, g.number, Nat.lt_of_le_of_lt (length_putF _ _ _) (by show 0 + 1 < 1000; decide), ?_⟩
  rw [upd_upd]
  refine ⟨_, rfl, a, C, dx, _, rfl, upd_same, g.cls, g.place, ?_, ?_⟩
  · have e1 := length_putF "number" (V.int (n : Nat)) (putF "tokens" (V.ref l) [])
    have e2 := length_putF "tokens" (V.ref l) []
    simp only [List.length_nil] at e2
    omega
  rw [upd_upd]
  refine ⟨_, rfl, a, C, dx, _, rfl, upd_same, g.cls, g.rules, ?_, ?_⟩
  · have e1 := length_putF "number" (V.int (n : Nat)) (putF "tokens" (V.ref l) [])
    have e2 := length_putF "tokens" (V.ref l) []
    have e3 := length_putF "place" (V.int 0) (putF "number" (V.int (n : Nat)) (putF "tokens" (V.ref l) []))
    simp only [List.length_nil] at e2
    omega
  rw [upd_upd]
  refine ⟨_, rfl, a, C, dx, _, rfl, upd_same, g.cls, g.letters, ?_, ?_⟩
  · have e1 := length_putF "number" (V.int (n : Nat)) (putF "tokens" (V.ref l) [])
    have e2 := length_putF "tokens" (V.ref l) []
    have e3 := length_putF "place" (V.int 0) (putF "number" (V.int (n : Nat)) (putF "tokens" (V.ref l) []))
    have e4 := length_putF "rules" (V.int 0) (putF "place" (V.int 0) (putF "number" (V.int (n : Nat)) (putF "tokens" (V.ref l) [])))
    simp only [List.length_nil] at e2
    omega
  rw [upd_upd, putF_made]
  have ne : l ≠ a := Ne.symm (ne_of_none ha hl)
  refine q _ l ((k1.any.upR (List.mem_singleton.mpr rfl) (by rw [ha]; exact True.intro) _)) ⟨⟨dx, us, upd_same, by rw [upd_ne ne]; exact h1, t1.tu fun b xs e => by rw [upd_ne (ne_of e a1 (by simp))]; exact e⟩, toks_ok hx, hn, (toks_ok hx).pos⟩
end T65
end
section
/-! W8: some_letters of a Line. -/
namespace T65
open PySem PySem.Spec PyProof.Rows L2
theorem LnA.other {C : Addr} {H : Hp} {a tl q : Addr} {T : TkL} {n : Nat} {s : PSt} {us us' : List V} (L : LnA C H a tl T n s) (h1 : q ≠ a) (h2 : q ≠ tl) (e : H q = some (.lst us)) : LnA C (upd H q (.lst us')) a tl T n s := by
  obtain ⟨dx, vs, i1, i2, i3⟩ := L.ex
  exact ⟨⟨dx, vs, by rw [upd_ne (Ne.symm h1)]; exact i1, by rw [upd_ne (Ne.symm h2)]; exact i2, i3.tu (Tu.lst e)⟩, L.ok, L.num, L.lt⟩
theorem RdA.other {H : Hp} {a tl q : Addr} {T : TkL} {n : Nat} {s : PSt} {us us' : List V} (L : RdA H a tl T n s) (h1 : q ≠ a) (h2 : q ≠ tl) (e : H q = some (.lst us)) : RdA (upd H q (.lst us')) a tl T n s := by
  obtain ⟨vs, i0, i1, i2, i3⟩ := L.ex
  exact ⟨⟨vs, i0, by rw [upd_ne (Ne.symm h1)]; exact i1, by rw [upd_ne (Ne.symm h2)]; exact i2, i3.tu (Tu.lst e)⟩, L.ok, L.num, L.lt⟩
theorem LnA.chg {C : Addr} {H : Hp} {a tl : Addr} {T : TkL} {n : Nat} {s : PSt} (L : LnA C H a tl T n s) : Chg (H a) := by
  obtain ⟨dx, vs, i1, _⟩ := L.ex
  rw [i1]
  exact True.intro
theorem RdA.chg {H : Hp} {a tl : Addr} {T : TkL} {n : Nat} {s : PSt} (L : RdA H a tl T n s) : Chg (H a) := by
  obtain ⟨vs, _, i1, _⟩ := L.ex
  rw [i1]
  exact True.intro
theorem LnA.ne {C : Addr} {H : Hp} {a tl q : Addr} {T : TkL} {n : Nat} {s : PSt} (L : LnA C H a tl T n s) (e : H q = none) : q ≠ a ∧ q ≠ tl := by
  obtain ⟨dx, vs, i1, i2, _⟩ := L.ex
  exact ⟨Ne.symm (ne_of_none i1 e), Ne.symm (ne_of_none i2 e)⟩
theorem RdA.ne {H : Hp} {a tl q : Addr} {T : TkL} {n : Nat} {s : PSt} (L : RdA H a tl T n s) (e : H q = none) : q ≠ a ∧ q ≠ tl := by
  obtain ⟨vs, _, i1, i2, _⟩ := L.ex
  exact ⟨Ne.symm (ne_of_none i1 e), Ne.symm (ne_of_none i2 e)⟩
theorem TDs.strs {H : Hp} : ∀ ls : List Str, TDs H (ls.map V.str) (ls.map PyData.str)
  | [] => .nil
  | x :: r => .cons (.str x) (TDs.strs r)
/-- what a reader of a row promises: spRow -/
def spLetters (C S : Addr) : Sp := fun vs H Q E => ∃ (a tl : Addr) (T : TkL) (n : Nat) (s : PSt), vs = [.ref a] ∧ LnA C H a tl T n s ∧ Does C S (match lettersM T T.length [] s with
      | .error c => .error c
      | .ok (ls, s') => .ok (tupS ls, s')) a tl T n H Q E
theorem ok_some_letters {P : Program} {w : World} {K : PySem.W.Frag} {mg : Str → Option Value} {base : Heap} {C S f : Addr} {fd : FuncData} (g : G65 K mg C S) (F : Mn K "some_letters" "Line.some_letters" s_Line_some_letters f fd) (gF : Meth K C "some_letters" f)
    (m_peek : MCal P w K mg base CX0 1 C "peek" p_Line_peek (spPeek C)) (m_take : MCal P w K mg base (L2.CX P w) 4 C "take" p_Line_take (spTake C S)) (c_is_letter : Cal P w K mg base CX0 2 "is_letter" p_is_letter spLetter) :
    MCal P w K mg base (L2.CX P w) 5 C "some_letters" p_Line_some_letters (spLetters C S) := by
  refine mcal_of F gF sc_Line_some_letters (fun vs H Q E h => by obtain ⟨a, tl, T, n, s, rfl, _⟩ := h; rfl) (fun cdv A outer s H vs Q E hr h => ⟨_,
      (pss_cons (ps_set (i := 1) sc_Line_some_letters.nd rfl (by first | exact Or.inl rfl | exact Or.inr rfl) (pe_lst pa_nil))
      (pss_cons (ps_while (passes_of rfl) (pt_cmpR op_ne (pe_mcal0 m_peek g.cls (pv 0) hr pass0) pe_str (nomark _))
        (pss_cons (ps_fldaug (pv 0) pe_int in_add)
        (pss_one (ps_expr (pe_bm PySem.F.plainAttrs_list PySem.F.slot_list_append PySem.F.type_list_append mt_append (pv 1) (pa_cons (pe_mcal m_take g.cls (pv 0) hr tkp (pa_cons (pe_and (pe_cal c_is_letter hr pass0 (pa_cons (pe_mcal0 m_peek g.cls (pv 0) hr pass0) pa_nil)) (pe_one (pe_cmpR op_le (pe_fld (pv 0) rfl) (pe_gc g.MOST_IN_ALL) (nomark _)))) pa_nil)) pa_nil))))))
      (pss_one (ps_ret (pe_callTy call_tuple_of rfl g.tuple rfl (pa_cons (pv 1) pa_nil)))))), ?_⟩) (fun _ _ _ _ _ _ us hl => match us, hl with | [_], _ => rfl)
  obtain ⟨a, tl, T, n, s, rfl, L, q⟩ := h
  generalize hR : lettersM T T.length [] s = R at q
  refine ⟨Nat.zero_le _, fun qf hq => ?_⟩
  obtain ⟨qa, ql⟩ := L.ne hq
  refine ⟨fun m σ H1 => ∃ (s1 : PSt) (ls : List Str) (fu : Nat), m = fu ∧ σ = [some (.ref a), some (.ref qf)] ∧ Kp [a] H H1 ∧ LnA C H1 a tl T n s1 ∧ H1 qf = some (.lst (ls.map V.str)) ∧ ls.length ≤ s1.p ∧ T.length ≤ s1.p + fu ∧ lettersM T fu ls s1 = R,
    ⟨T.length, s, [], T.length, rfl, rfl, (Kp.refl [a] H).new hq _, L.kp0 ((Kp.refl [] H).new hq _), upd_same, Nat.zero_le _, by omega, hR⟩, ?_⟩
  rintro m σ H1 ⟨s1, ls, fu, rfl, rfl, k1, L1, hf, hle, hfu, he⟩
  obtain ⟨dx, us, h1, h2, h3⟩ := L1.ex
  have lt1 := L1.lt
  obtain ⟨fu', rfl⟩ : ∃ fu', m = fu' + 1 := ⟨m - 1, by omega⟩
  unfold lettersM at he
  refine ⟨_, rfl, a, dx, _, rfl, h1, rfl, a, tl, T, n, s1, rfl, L1, rfl, _, rfl, ite2 (fun h4 => ?_) (fun h4 => ?_)⟩
  · have h4' : tk T s1.p ≠ ")" := by simpa using h4
    rw [if_neg h4'] at he
    refine ⟨_, fun σ' H' z => z, ?_⟩
    -- one more letter is counted
    refine ⟨_, rfl, a, C, dx, _, _, rfl, h1, g.cls, g.letters, rfl, _, _, rfl, rfl, dx, _, h1, by show 5 < 1000; decide, ?_⟩
    rw [putF_letters]
    have k2 := k1.upR (List.mem_singleton.mpr rfl) L.chg (.ins C dx (lnF (.ref tl) (.int n) (.int s1.p) (.int s1.r) (.int ((s1.l : Nat) + 1))))
    have L2' := L1.mv (s' := ⟨s1.p, s1.r, s1.l + 1⟩) h1 h2 h3 L1.lt
    have hf2 : upd H1 a (.ins C dx (lnF (.ref tl) (.int n) (.int s1.p) (.int s1.r) (.int ((s1.l : Nat) + 1)))) qf = some (.lst (ls.map V.str)) := by rw [upd_ne qa]; exact hf
    refine ⟨_, rfl, .inl ⟨rfl, _, SqL.of hf2⟩, ?_⟩
    refine ⟨_, rfl, a, dx, _, rfl, upd_same, rfl, ?_⟩
    refine ⟨_, rfl, a, dx, _, rfl, upd_same, rfl, a, tl, T, n, ⟨s1.p, s1.r, s1.l + 1⟩, rfl, L2', tk T s1.p, rfl, L1.ok.small _, fun H3 k3 => ⟨_, rfl, ?_⟩⟩
    have L3 := L2'.kp0 k3
    have k13 := k2.trans k3.any
    have hf3 := k3.at0 hf2
    have bad : (letterM (tk T s1.p) && decide (s1.l + 1 ≤ 12)) = false → Err S [a] H3 n (cl T s1.p) E := fun z => by
      rw [z] at he
      simp only [Bool.false_eq_true, if_false] at he
      rw [← he] at q
      exact Err.mono q k13
    have step : ∀ b : Bool, b = (letterM (tk T s1.p) && decide (s1.l + 1 ≤ 12)) → spTake C S [.ref a, .bl b] H3 (fun v H4 => ∃ l xs y, V.ref qf = .ref l ∧ [v] = [y] ∧ H4 l = some (.lst xs) ∧ xs.length < sizeLine ∧ ∃ m', m' < fu' + 1 ∧ ∃ (s1 : PSt) (ls : List Str) (fu : Nat), m' = fu ∧ [some (V.ref a), some (V.ref qf)] = [some (.ref a), some (.ref qf)] ∧
        Kp [a] H (upd H4 l (.lst (xs ++ [y]))) ∧ LnA C (upd H4 l (.lst (xs ++ [y]))) a tl T n s1 ∧ upd H4 l (.lst (xs ++ [y])) qf = some (.lst (ls.map V.str)) ∧ ls.length ≤ s1.p ∧ T.length ≤ s1.p + fu ∧ lettersM T fu ls s1 = R) E := by
      rintro b rfl
      refine ⟨a, tl, _, T, n, ⟨s1.p, s1.r, s1.l + 1⟩, rfl, L3, fun hne hk H4 k4 L4 => ?_, fun hz => ?_⟩
      · have hf4 : H4 qf = some (.lst (ls.map V.str)) := k4.at_ hf3 (by simpa using qa)
        refine ⟨qf, _, _, rfl, rfl, hf4, ?_, fu', Nat.lt_succ_self _, ⟨s1.p + 1, s1.r, s1.l + 1⟩, ls ++ [tk T s1.p], fu', rfl, rfl, (k13.trans k4).upN hq _, L4.other qa ql hf4, by rw [upd_same, List.map_append]; rfl, by rw [List.length_append]; show ls.length + 1 ≤ s1.p + 1; omega, by show T.length ≤ s1.p + 1 + fu'; omega, ?_⟩
        · rw [List.length_map, sizeLine_eq]
          have := L1.ok.len
          omega
        · rw [if_pos hk] at he
          exact he
      · refine bad ?_
        rcases hz with z | z
        · rw [show tk T s1.p = "" from z, letterM_nil]
          rfl
        · exact z
    refine ite2 (fun h5 => ?_) (fun h5 => ?_)
    · obtain ⟨dx3, us3, i1, _, _⟩ := L3.ex
      refine ⟨_, rfl, a, C, dx3, _, _, rfl, i1, g.cls, g.letters, rfl, _, _, rfl, rfl, step _ ?_⟩
      rw [h5, Bool.true_and]
      exact decide_eq_decide.mpr (by show ((s1.l : Nat) : Int) + 1 ≤ 12 ↔ s1.l + 1 ≤ 12; omega)
    · refine step false ?_
      rw [Bool.not_eq_true _ |>.mp h5]
      rfl
  · have h4' : tk T s1.p = ")" := by simpa using h4
    rw [if_pos h4'] at he
    rw [← he] at q
    refine ⟨_, rfl, qf, _, rfl, .inl ⟨SqL.of hf, fun l hl => ?_⟩⟩
    exact q _ _ (k1.new hl _) (L1.kp0 ((Kp.refl [] H1).new hl _)) (TD.tup upd_same (TDs.strs ls))
end T65
end
section
/-! W9: read_rule of a Line. -/
namespace T65
open PySem PySem.Spec PyProof.Rows L2
def spRule (C S : Addr) (k : Nat) : Sp := fun vs H Q E => ∃ (a tl : Addr) (T : TkL) (n : Nat) (s : PSt) (lev : Int), vs = [.ref a, .int lev] ∧ LnA C H a tl T n s ∧ lev + k = 9 ∧ k ≤ 8 ∧ Does C S (ruleM T k s) a tl T n H Q E
def partsR (T : TkL) (k : Nat) (s : PSt) : Except Nat (PyData × PSt) := match partsM T (ruleM T k) T.length [] s with
  | .error c => .error c
  | .ok (ds, s') => .ok (.tuple ds, s')
def spParts (C S : Addr) (k : Nat) : Sp := fun vs H Q E => ∃ (a tl : Addr) (T : TkL) (n : Nat) (s : PSt) (lev : Int), vs = [.ref a, .int lev] ∧ LnA C H a tl T n s ∧ lev + k = 9 ∧ k ≤ 8 ∧ Does C S (partsR T k s) a tl T n H Q E
/-- nothing is promised below the last level -/
def spR (C S : Addr) : Nat → Sp
  | 0 => fun _ _ _ _ => False
  | k + 1 => spRule C S k
def spP (C S : Addr) : Nat → Sp
  | 0 => fun _ _ _ _ => False
  | k + 1 => spParts C S k
theorem inV_strs (x : Str) : ∀ ls : List Str, inV (.str x) (ls.map V.str) = ls.contains x
  | [] => rfl
  | y :: r => by
    have e := inV_strs x r
    unfold inV at e ⊢
    rw [List.map_cons, List.any_cons, e, List.contains_cons]
    congr 1
    show (y == x) = (x == y)
    exact Bool.eq_iff_iff.mpr ⟨fun z => by rw [beq_iff_eq] at z ⊢; exact z.symm, fun z => by rw [beq_iff_eq] at z ⊢; exact z.symm⟩
theorem ok_read_rule {P : Program} {w : World} {K : PySem.W.Frag} {mg : Str → Option Value} {base : Heap} {C S f : Addr} {fd : FuncData} {k j : Nat} (hk : 5 ≤ k) (g : G65 K mg C S) (F : Mn K "read_rule" "Line.read_rule" s_Line_read_rule f fd) (gF : Meth K C "read_rule" f)
    (m_peek0 : MCal P w K mg base CX0 1 C "peek" p_Line_peek (spPeek C)) (m_take0 : MCal P w K mg base (L2.CX P w) 4 C "take" p_Line_take (spTake C S)) (m_some_letters0 : MCal P w K mg base (L2.CX P w) 5 C "some_letters" p_Line_some_letters (spLetters C S))
    (m_read_rule : MCal P w K mg base (L2.CX P w) k C "read_rule" p_Line_read_rule (spR C S j)) (m_some_rules : MCal P w K mg base (L2.CX P w) k C "some_rules" p_Line_some_rules (spP C S j)) :
    MCal P w K mg base (L2.CX P w) (k + 1) C "read_rule" p_Line_read_rule (spRule C S j) := by
  have m_peek := m_peek0.imp (show 1 ≤ k by omega) fun _ _ _ _ z => z
  have m_take := m_take0.imp (show 4 ≤ k by omega) fun _ _ _ _ z => z
  have m_some_letters := m_some_letters0.imp hk fun _ _ _ _ z => z
  refine mcal_of F gF sc_Line_read_rule (fun vs H Q E h => by obtain ⟨a, tl, T, n, s, lev, rfl, _⟩ := h; rfl) (fun cdv A outer s H vs Q E hr h => ⟨_,
      (pss_cons (ps_fldaug (pv 0) pe_int in_add)
      (pss_cons (ps_set (i := 2) sc_Line_read_rule.nd rfl (by first | exact Or.inl rfl | exact Or.inr rfl) (pe_cmpR op_in_seq (pe_mcal0 m_peek g.cls (pv 0) hr pass0) (pe_tup (pa_cons pe_str (pa_cons pe_str (pa_cons pe_str (pa_cons pe_str pa_nil))))) (by with_unfolding_all rfl)))
      (pss_cons (ps_set (i := 3) sc_Line_read_rule.nd rfl (by first | exact Or.inl rfl | exact Or.inr rfl) (pe_mcal m_take g.cls (pv 0) hr tkp (pa_cons (pe_and (pv 2) (pe_and (pe_cmpR op_le (pe_fld (pv 0) rfl) (pe_gc g.MOST_RULES) (nomark _)) (pe_one (pe_cmpR op_le (pv 1) (pe_gc g.MOST_LEVELS) (nomark _))))) pa_nil)))
      (pss_cons (ps_expr (pe_mcal m_take g.cls (pv 0) hr tkp (pa_cons (pe_cmpR op_eq (pe_mcal0 m_peek g.cls (pv 0) hr pass0) pe_str (nomark _)) pa_nil)))
      (pss_cons (ps_if (pt_cmpR op_eq (pv 3) pe_str (nomark _))
        (pss_one (ps_set (i := 4) sc_Line_read_rule.nd rfl (by first | exact Or.inl rfl | exact Or.inr rfl) (pe_tup (pa_cons (pv 3) (pa_cons (pe_mcal0 m_some_letters g.cls (pv 0) hr tkp) pa_nil)))))
        (pss_one (ps_if (pt_cmpR op_eq (pv 3) pe_str (nomark _))
          (pss_one (ps_set (i := 4) sc_Line_read_rule.nd rfl (by first | exact Or.inl rfl | exact Or.inr rfl) (pe_tup (pa_cons (pv 3) (pa_cons (pe_mcal m_read_rule g.cls (pv 0) hr tkp (pa_cons (pe_op op_add (pv 1) pe_int) pa_nil)) pa_nil)))))
          (pss_one (ps_set (i := 4) sc_Line_read_rule.nd rfl (by first | exact Or.inl rfl | exact Or.inr rfl) (pe_tup (pa_cons (pv 3) (pa_cons (pe_mcal m_some_rules g.cls (pv 0) hr tkp (pa_cons (pe_op op_add (pv 1) pe_int) pa_nil)) pa_nil))))))))
      (pss_cons (ps_expr (pe_mcal m_take g.cls (pv 0) hr tkp (pa_cons (pe_cmpR op_eq (pe_mcal0 m_peek g.cls (pv 0) hr pass0) pe_str (nomark _)) pa_nil)))
      (pss_one (ps_ret (pv 4))))))))), ?_⟩) (fun _ _ _ _ _ _ us hl => match us, hl with | [_, _], _ => rfl)
  obtain ⟨a, tl, T, n, s, lev, rfl, L, hlev, hj, q⟩ := h
  obtain ⟨dx, us, h1, h2, h3⟩ := L.ex
  refine ⟨_, rfl, a, C, dx, _, _, rfl, h1, g.cls, g.rules, rfl, _, _, rfl, rfl, dx, _, h1, by show 5 < 1000; decide, ?_⟩
  rw [putF_rules]
  have k1 := (Kp.refl [a] H).upR (List.mem_singleton.mpr rfl) L.chg (.ins C dx (lnF (.ref tl) (.int n) (.int s.p) (.int ((s.r : Nat) + 1)) (.int s.l)))
  have L1 := L.mv (s' := ⟨s.p, s.r + 1, s.l⟩) h1 h2 h3 L.lt
  refine ⟨_, rfl, a, dx, _, rfl, upd_same, rfl, a, tl, T, n, ⟨s.p, s.r + 1, s.l⟩, rfl, L1, by show 4 ≤ sizeLine; decide, fun p1 hp1 => ⟨p1, kinds.map V.str, rfl, .inr (SqT.of upd_same), rfl, rfl, ?_⟩⟩
  have k2 := k1.new hp1 (.tup (kinds.map V.str))
  have L2' := L1.kp0 ((Kp.refl [] _).new hp1 (.tup (kinds.map V.str)))
  have eIn : inV (.str (tk T s.p)) (kinds.map V.str) = kinds.contains (tk T s.p) := inV_strs _ _
  have hbad : (kinds.contains (tk T s.p) && decide (s.r + 1 ≤ 20) && decide (lev ≤ 8)) = false → Err S [a] H n (cl T s.p) E := by
    intro z
    cases j with
    | zero => exact q
    | succ k' =>
      rw [decide_eq_true (show lev ≤ 8 by omega), Bool.and_true] at z
      have e : ruleM T (k' + 1) s = .error (cl T s.p) := by
        rw [ruleM, z]
        rfl
      rw [e] at q
      exact q
  -- the kind is taken
  obtain ⟨dx2, us2, i1, i2, i3⟩ := L2'.ex
  have step : ∀ (b : Bool) (Kc : VK), b = (kinds.contains (tk T s.p) && decide (s.r + 1 ≤ 20) && decide (lev ≤ 8)) → (b = true → ∀ H3, Kp [a] H H3 → LnA C H3 a tl T n ⟨s.p + 1, s.r + 1, s.l⟩ → Kc (.str (tk T s.p)) H3) →
      spTake C S [.ref a, .bl b] _ Kc E := fun b Kc hb hK => ⟨a, tl, b, T, n, ⟨s.p, s.r + 1, s.l⟩, rfl, L2', fun _ hk H3 k3 L3 => hK hk H3 (k2.trans k3) L3, fun hz => by
    refine Err.mono (hbad ?_) k2
    rw [← hb]
    rcases hz with z | z
    · have z' : tk T s.p = "" := z
      rw [hb, z']
      rfl
    · exact z⟩
  refine ⟨_, rfl, a, dx2, _, rfl, i1, rfl, _, rfl, _, rfl, ?_⟩
  have main : ∀ (b : Bool), b = (kinds.contains (tk T s.p) && decide (s.r + 1 ≤ 20) && decide (lev ≤ 8)) → b = true → ∀ H3, Kp [a] H H3 → LnA C H3 a tl T n ⟨s.p + 1, s.r + 1, s.l⟩ →
      tSeq (tDrop (tMeth C "take" (spTake C S) [] E (tVar 0) (tCons (tOp rEq (tMeth C "peek" (spPeek C) [] E0 (tVar 0) tNil) (tC (.str "("))) tNil)))
        (tSeq (tIfS (tTest (tOp rEq (tVar 3) (tC (.str "word")))) (tAsg (tTup (tCons (tVar 3) (tCons (tMeth C "some_letters" (spLetters C S) [] E (tVar 0) tNil) tNil))) (gName 4))
          (tIfS (tTest (tOp rEq (tVar 3) (tC (.str "again")))) (tAsg (tTup (tCons (tVar 3) (tCons (tMeth C "read_rule" (spR C S j) [] E (tVar 0) (tCons (tOp (rI0 fun i j => .int (i + j)) (tVar 1) (tC (.int 1))) tNil)) tNil))) (gName 4))
            (tAsg (tTup (tCons (tVar 3) (tCons (tMeth C "some_rules" (spP C S j) [] E (tVar 0) (tCons (tOp (rI0 fun i j => .int (i + j)) (tVar 1) (tC (.int 1))) tNil)) tNil))) (gName 4))))
        (tSeq (tDrop (tMeth C "take" (spTake C S) [] E (tVar 0) (tCons (tOp rEq (tMeth C "peek" (spPeek C) [] E0 (tVar 0) tNil) (tC (.str ")"))) tNil))) (tRet (tVar 4))))
        { nx := fun _ H' => Q .non H', rt := Q } [some (.ref a), some (.int lev), some (.bl (kinds.contains (tk T s.p))), some (.str (tk T s.p)), none] H3 := by
    rintro b rfl hb H3 k3 L3
    simp only [Bool.and_eq_true] at hb
    obtain ⟨hb1, hb2⟩ := hb
    have hl := of_decide_eq_true hb2
    obtain ⟨k', rfl⟩ : ∃ k', j = k' + 1 := ⟨j - 1, by omega⟩
    have er : ruleM T (k' + 1) s = if tk T (s.p + 1) = "(" then (match bodyM T (ruleM T k') (tk T s.p) ⟨s.p + 2, s.r + 1, s.l⟩ with
        | .error c => .error c
        | .ok (d, s') => if tk T s'.p = ")" then .ok (.tuple [.str (tk T s.p), d], ⟨s'.p + 1, s'.r, s'.l⟩) else .error (cl T s'.p))
      else .error (cl T (s.p + 1)) := by
      rw [ruleM, if_pos (by rw [hb1.1, hb1.2]; rfl)]
      all_goals rfl
    rw [er] at q
    obtain ⟨dx3, us3, j1, _, _⟩ := L3.ex
    refine ⟨_, rfl, a, dx3, _, rfl, j1, rfl, _, rfl, a, dx3, _, rfl, j1, rfl, a, tl, T, n, _, rfl, L3, rfl, a, tl, _, T, n, ⟨s.p + 1, s.r + 1, s.l⟩, rfl, L3, fun hne hk H4 k4 L4 => ?_, fun hz => ?_⟩
    · have hk' : tk T (s.p + 1) = "(" := by simpa using hk
      rw [if_pos hk'] at q
      have k04 := k3.trans k4
      -- the rest, once the body stands
      have rest : ∀ (H5 : Hp) (v : V) (d : PyData) (s5 : PSt), bodyM T (ruleM T k') (tk T s.p) ⟨s.p + 2, s.r + 1, s.l⟩ = .ok (d, s5) → Kp [a] H4 H5 → LnA C H5 a tl T n s5 → TD H5 v d →
          2 ≤ sizeLine ∧ ∀ p, H5 p = none → tSeq (tDrop (tMeth C "take" (spTake C S) [] E (tVar 0) (tCons (tOp rEq (tMeth C "peek" (spPeek C) [] E0 (tVar 0) tNil) (tC (.str ")"))) tNil))) (tRet (tVar 4))
            { nx := fun _ H' => Q .non H', rt := Q } [some (.ref a), some (.int lev), some (.bl (kinds.contains (tk T s.p))), some (.str (tk T s.p)), some (.ref p)] (upd H5 p (.tup [.str (tk T s.p), v])) := by
        intro H5 v d s5 eb k5 L5 tv
        refine ⟨by decide, fun p hp => ?_⟩
        rw [eb] at q
        have k6 : Kp [a] H (upd H5 p (.tup [.str (tk T s.p), v])) := (k04.trans k5).new hp _
        have L6 := L5.kp0 ((Kp.refl [] H5).new hp (.tup [.str (tk T s.p), v]))
        obtain ⟨dx6, us6, l1, _, _⟩ := L6.ex
        refine ⟨_, rfl, a, dx6, _, rfl, l1, rfl, _, rfl, a, dx6, _, rfl, l1, rfl, a, tl, T, n, _, rfl, L6, rfl, a, tl, _, T, n, s5, rfl, L6, fun hne hk7 H7 k7 L7 => ?_, fun hz => ?_⟩
        · have hk7' : tk T s5.p = ")" := by simpa using hk7
          have q2 : Does C S (if tk T s5.p = ")" then .ok (.tuple [.str (tk T s.p), d], ⟨s5.p + 1, s5.r, s5.l⟩) else .error (cl T s5.p)) a tl T n H Q E := q
          rw [if_pos hk7'] at q2
          refine ⟨_, rfl, q2 H7 _ (k6.trans k7) L7 ?_⟩
          have pa : p ≠ a := by
            obtain ⟨_, _, z, _⟩ := L5.ex
            exact Ne.symm (ne_of_none z hp)
          exact TD.tup (k7.at_ upd_same (by simpa using pa)) (.cons (.str _) (TDs.one ((tv.tu (Tu.new hp)).tu k7.tu)))
        · have hz' : tk T s5.p ≠ ")" := by
            rcases hz with z | z
            · rw [z]
              decide
            · simpa using z
          have q2 : Does C S (if tk T s5.p = ")" then .ok (.tuple [.str (tk T s.p), d], ⟨s5.p + 1, s5.r, s5.l⟩) else .error (cl T s5.p)) a tl T n H Q E := q
          rw [if_neg hz'] at q2
          exact Err.mono q2 k6
      have body : ∀ (r : Except Nat (PyData × PSt)) (Kc : VK), bodyM T (ruleM T k') (tk T s.p) ⟨s.p + 2, s.r + 1, s.l⟩ = r → (∀ (H5 : Hp) (v : V) (d : PyData) (s5 : PSt), r = .ok (d, s5) → Kp [a] H4 H5 → LnA C H5 a tl T n s5 → TD H5 v d → Kc v H5) → Does C S r a tl T n H4 Kc E := by
        intro r Kc e hK
        cases r with
        | error c =>
          rw [e] at q
          exact Err.mono q k04
        | ok z =>
          obtain ⟨d, s5⟩ := z
          exact fun H5 v k5 L5 t5 => hK H5 v d s5 rfl k5 L5 t5
      obtain ⟨dx4, us4, l1, _, _⟩ := L4.ex
      refine ⟨_, rfl, rfl, _, rfl, ite2 (fun h6 => ?_) (fun h6 => ?_)⟩
      · have e6 : tk T s.p = "word" := by simpa using h6
        have eb : bodyM T (ruleM T k') (tk T s.p) ⟨s.p + 2, s.r + 1, s.l⟩ = (match lettersM T T.length [] ⟨s.p + 2, s.r + 1, s.l⟩ with
          | .error c => .error c
          | .ok (ls, s') => .ok (tupS ls, s')) := by
          unfold bodyM
          rw [if_pos e6]
          all_goals rfl
        refine ⟨_, rfl, _, rfl, a, dx4, _, rfl, l1, rfl, a, tl, T, n, ⟨s.p + 2, s.r + 1, s.l⟩, rfl, L4, body _ _ eb fun H5 v d s5 e k5 L5 t5 => rest H5 v d s5 (eb.trans e) k5 L5 t5⟩
      · have e6 : tk T s.p ≠ "word" := by simpa using h6
        refine ⟨_, rfl, rfl, _, rfl, ite2 (fun h7 => ?_) (fun h7 => ?_)⟩
        · have e7 : tk T s.p = "again" := by simpa using h7
          have eb : bodyM T (ruleM T k') (tk T s.p) ⟨s.p + 2, s.r + 1, s.l⟩ = ruleM T k' ⟨s.p + 2, s.r + 1, s.l⟩ := by
            unfold bodyM
            rw [if_neg e6, if_pos e7]
          refine ⟨_, rfl, _, rfl, a, dx4, _, rfl, l1, rfl, _, rfl, _, _, rfl, rfl, a, tl, T, n, ⟨s.p + 2, s.r + 1, s.l⟩, lev + 1, rfl, L4, by omega, by omega, body _ _ eb fun H5 v d s5 e k5 L5 t5 => rest H5 v d s5 (eb.trans e) k5 L5 t5⟩
        · have e7 : tk T s.p ≠ "again" := by simpa using h7
          have eb : bodyM T (ruleM T k') (tk T s.p) ⟨s.p + 2, s.r + 1, s.l⟩ = partsR T k' ⟨s.p + 2, s.r + 1, s.l⟩ := by
            unfold bodyM partsR
            rw [if_neg e6, if_neg e7]
            all_goals rfl
          refine ⟨_, rfl, _, rfl, a, dx4, _, rfl, l1, rfl, _, rfl, _, _, rfl, rfl, a, tl, T, n, ⟨s.p + 2, s.r + 1, s.l⟩, lev + 1, rfl, L4, by omega, by omega, body _ _ eb fun H5 v d s5 e k5 L5 t5 => rest H5 v d s5 (eb.trans e) k5 L5 t5⟩
    · have hz' : tk T (s.p + 1) ≠ "(" := by
        rcases hz with z | z
        · have z' : tk T (s.p + 1) = "" := z
          rw [z']
          decide
        · simpa using z
      rw [if_neg hz'] at q
      exact Err.mono q k3
  have eN : (if (false : Bool) = true then !inV (.str (tk T s.p)) (kinds.map V.str) else inV (.str (tk T s.p)) (kinds.map V.str)) = kinds.contains (tk T s.p) := eIn
  rw [eN]
  refine ite2 (fun h5 => ?_) (fun h5 => ?_)
  · refine ⟨_, rfl, a, C, dx2, _, _, rfl, i1, g.cls, g.rules, rfl, _, _, rfl, rfl, _, rfl, ite2 (fun h6 => ?_) (fun h6 => ?_)⟩
    · have h6' : s.r + 1 ≤ 20 := by
        have : ((s.r + 1 : Nat) : Int) ≤ 20 := of_decide_eq_true h6
        omega
      refine ⟨_, rfl, _, _, rfl, rfl, ?_⟩
      dsimp only [tNil]
      exact step _ _ (by rw [h5, decide_eq_true h6']; rfl) (main _ (by rw [h5, decide_eq_true h6']; rfl))
    · have h6' : ¬ s.r + 1 ≤ 20 := fun z => h6 (decide_eq_true (show ((s.r + 1 : Nat) : Int) ≤ 20 by omega))
      dsimp only [tNil]
      exact step false _ (by rw [h5, decide_eq_false h6']; rfl) (fun z => by cases z)
  · dsimp only [tNil]
    exact step false _ (by rw [Bool.not_eq_true _ |>.mp h5]; rfl) (fun z => by cases z)
end T65
end
section
/-! W10: some_rules of a Line; both defs at every level. -/
namespace T65
open PySem PySem.Spec PyProof.Rows L2
theorem ok_some_rules {P : Program} {w : World} {K : PySem.W.Frag} {mg : Str → Option Value} {base : Heap} {C S f : Addr} {fd : FuncData} {k j : Nat} (hk : 5 ≤ k) (g : G65 K mg C S) (F : Mn K "some_rules" "Line.some_rules" s_Line_some_rules f fd) (gF : Meth K C "some_rules" f)
    (m_peek0 : MCal P w K mg base CX0 1 C "peek" p_Line_peek (spPeek C)) (m_take0 : MCal P w K mg base (L2.CX P w) 4 C "take" p_Line_take (spTake C S))
    (m_read_rule : MCal P w K mg base (L2.CX P w) k C "read_rule" p_Line_read_rule (spRule C S j)) :
    MCal P w K mg base (L2.CX P w) (k + 1) C "some_rules" p_Line_some_rules (spParts C S j) := by
  have m_peek := m_peek0.imp (show 1 ≤ k by omega) fun _ _ _ _ z => z
  have m_take := m_take0.imp (show 4 ≤ k by omega) fun _ _ _ _ z => z
  refine mcal_of F gF sc_Line_some_rules (fun vs H Q E h => by obtain ⟨a, tl, T, n, s, lev, rfl, _⟩ := h; rfl) (fun cdv A outer s H vs Q E hr h => ⟨_,
      (pss_cons (ps_set (i := 2) sc_Line_some_rules.nd rfl (by first | exact Or.inl rfl | exact Or.inr rfl) (pe_lst pa_nil))
      (pss_cons (ps_while (passes_of rfl) (pt_cmpR op_ne (pe_mcal0 m_peek g.cls (pv 0) hr pass0) pe_str (nomark _))
        (pss_cons (ps_if (pt_cmpR (op_neNil (hu64 hr)) (pv 2) (pe_lst pa_nil) (nomark _))
          (pss_one (ps_expr (pe_mcal m_take g.cls (pv 0) hr tkp (pa_cons (pe_cmpR op_eq (pe_mcal0 m_peek g.cls (pv 0) hr pass0) pe_str (nomark _)) pa_nil))))
          pss_nil)
        (pss_one (ps_expr (pe_bm PySem.F.plainAttrs_list PySem.F.slot_list_append PySem.F.type_list_append mt_append (pv 2) (pa_cons (pe_mcal m_read_rule g.cls (pv 0) hr tkp (pa_cons (pv 1) pa_nil)) pa_nil))))))
      (pss_one (ps_ret (pe_callTy call_tuple_of rfl g.tuple rfl (pa_cons (pv 2) pa_nil)))))), ?_⟩) (fun _ _ _ _ _ _ us hl => match us, hl with | [_, _], _ => rfl)
  obtain ⟨a, tl, T, n, s, lev, rfl, L, hlev, hj, q⟩ := h
  unfold partsR at q
  generalize hR : partsM T (ruleM T j) T.length [] s = R at q
  refine ⟨Nat.zero_le _, fun qf hq => ?_⟩
  obtain ⟨qa, ql⟩ := L.ne hq
  refine ⟨fun m σ H1 => ∃ (s1 : PSt) (vs : List V) (ds : List PyData), σ = [some (.ref a), some (.int lev), some (.ref qf)] ∧ Kp [a] H H1 ∧ LnA C H1 a tl T n s1 ∧ H1 qf = some (.lst vs) ∧ TDs H1 vs ds ∧ vs.length ≤ s1.p ∧ T.length ≤ s1.p + m ∧ partsM T (ruleM T j) m ds s1 = R,
    ⟨T.length, s, [], [], rfl, (Kp.refl [a] H).new hq _, L.kp0 ((Kp.refl [] H).new hq _), upd_same, .nil, Nat.zero_le _, by omega, hR⟩, ?_⟩
  rintro m σ H1 ⟨s1, vs, ds, rfl, k1, L1, hf, hds, hle, hfu, he⟩
  obtain ⟨dx, us, h1, h2, h3⟩ := L1.ex
  have lt1 := L1.lt
  obtain ⟨m', rfl⟩ : ∃ m', m = m' + 1 := ⟨m - 1, by omega⟩
  unfold partsM at he
  refine ⟨_, rfl, a, dx, _, rfl, h1, rfl, a, tl, T, n, s1, rfl, L1, rfl, _, rfl, ite2 (fun h4 => ?_) (fun h4 => ?_)⟩
  · have h4' : tk T s1.p ≠ ")" := by simpa using h4
    rw [if_neg h4'] at he
    refine ⟨_, fun σ' H' z => z, ?_⟩
    -- a part is read and put
    have put : ∀ (H3 : Hp) (s3 : PSt), s1.p ≤ s3.p → Kp [a] H H3 → LnA C H3 a tl T n s3 → H3 qf = some (.lst vs) → TDs H3 vs ds → (match ruleM T j s3 with
          | .error c => (.error c : Res (List PyData))
          | .ok (d, s') => partsM T (ruleM T j) m' (ds ++ [d]) s') = R →
        tDrop (tBM K "list" rAppend (tVar 2) (tCons (tMeth C "read_rule" (spRule C S j) [] E (tVar 0) (tCons (tVar 1) tNil)) tNil))
          { nx := fun σ' H' => ∃ m'', m'' < m' + 1 ∧ ∃ (s1 : PSt) (vs : List V) (ds : List PyData), σ' = [some (.ref a), some (.int lev), some (.ref qf)] ∧ Kp [a] H H' ∧ LnA C H' a tl T n s1 ∧ H' qf = some (.lst vs) ∧ TDs H' vs ds ∧ vs.length ≤ s1.p ∧ T.length ≤ s1.p + m'' ∧ partsM T (ruleM T j) m'' ds s1 = R, rt := Q }
          [some (.ref a), some (.int lev), some (.ref qf)] H3 := by
      intro H3 s3 hle3 k3 L3 hf3 hd3 e3
      obtain ⟨dx3, us3, i1, _, _⟩ := L3.ex
      refine ⟨_, rfl, .inl ⟨rfl, _, SqL.of hf3⟩, _, rfl, a, dx3, _, rfl, i1, rfl, _, rfl, a, tl, T, n, s3, lev, rfl, L3, hlev, hj, ?_⟩
      cases er : ruleM T j s3 with
      | error c =>
        rw [er] at e3
        have e3' : (.error c : Res (List PyData)) = R := e3
        rw [← e3'] at q
        exact Err.mono q k3
      | ok z =>
        obtain ⟨d, s5⟩ := z
        rw [er] at e3
        have e3' : partsM T (ruleM T j) m' (ds ++ [d]) s5 = R := e3
        have adv := ruleM_adv er
        intro H5 v k5 L5 t5
        have hf5 : H5 qf = some (.lst vs) := k5.at_ hf3 (by simpa using qa)
        refine ⟨qf, _, _, rfl, rfl, hf5, ?_, m', Nat.lt_succ_self _, s5, vs ++ [v], ds ++ [d], rfl, (k3.trans k5).upN hq _, L5.other qa ql hf5, upd_same, ((hd3.tu k5.tu).app (TDs.one t5)).tu (Tu.lst hf5), ?_, by omega, e3'⟩
        · rw [sizeLine_eq]
          have := L1.ok.len
          omega
        · rw [List.length_append]
          show vs.length + 1 ≤ s5.p
          omega
    refine ⟨_, rfl, Nat.zero_le _, fun p hp => ⟨qf, p, vs, rfl, rfl, ?_, SqL.of upd_same, _, rfl, ite2 (fun h5 => ?_) (fun h5 => ?_)⟩⟩
    · exact SqL.of (by rw [upd_ne (ne_of_none hf hp)]; exact hf)
    · have hne : ds ≠ [] := fun z => by
        have := hds.len
        rw [z] at this
        cases vs with
        | nil => cases h5
        | cons _ _ => simp at this
      rw [if_neg hne] at he
      have k2 := k1.new hp (.lst [])
      have L2' := L1.kp0 ((Kp.refl [] H1).new hp (.lst []))
      obtain ⟨dx2, us2, i1, _, _⟩ := L2'.ex
      have hf2 : upd H1 p (.lst []) qf = some (.lst vs) := by rw [upd_ne (ne_of_none hf hp)]; exact hf
      refine ⟨_, rfl, a, dx2, _, rfl, i1, rfl, _, rfl, a, dx2, _, rfl, i1, rfl, a, tl, T, n, s1, rfl, L2', rfl, a, tl, _, T, n, s1, rfl, L2', fun hn hk H4 k4 L4 => ?_, fun hz => ?_⟩
      · have hk' : tk T s1.p = "," := by simpa using hk
        rw [if_pos hk'] at he
        exact put H4 ⟨s1.p + 1, s1.r, s1.l⟩ (Nat.le_succ _) (k2.trans k4) L4 (k4.at_ hf2 (by simpa using qa)) ((hds.tu (Tu.new hp)).tu k4.tu) he
      · have hz' : tk T s1.p ≠ "," := by
          rcases hz with z | z
          · rw [z]
            decide
          · simpa using z
        rw [if_neg hz'] at he
        rw [← he] at q
        exact Err.mono q k2
    · have hnil : ds = [] := by
        have := hds.len
        cases ds with
        | nil => rfl
        | cons _ _ =>
          cases vs with
          | nil => simp at this
          | cons _ _ => exact absurd rfl h5
      rw [if_pos hnil] at he
      exact put _ s1 (Nat.le_refl _) (k1.new hp _) (L1.kp0 ((Kp.refl [] H1).new hp _)) (by rw [upd_ne (ne_of_none hf hp)]; exact hf) (hds.tu (Tu.new hp)) he
  · have h4' : tk T s1.p = ")" := by simpa using h4
    rw [if_pos h4'] at he
    rw [← he] at q
    refine ⟨_, rfl, qf, _, rfl, .inl ⟨SqL.of hf, fun l hl => ?_⟩⟩
    exact q _ _ (k1.new hl _) (L1.kp0 ((Kp.refl [] H1).new hl _)) (TD.tup upd_same (hds.tu (Tu.new hl)))
/-- both at every level -/
theorem rules_all {P : Program} {w : World} {K : PySem.W.Frag} {mg : Str → Option Value} {base : Heap} {C S f1 f2 : Addr} {fd1 fd2 : FuncData} (g : G65 K mg C S) (F1 : Mn K "read_rule" "Line.read_rule" s_Line_read_rule f1 fd1) (g1 : Meth K C "read_rule" f1)
    (F2 : Mn K "some_rules" "Line.some_rules" s_Line_some_rules f2 fd2) (g2 : Meth K C "some_rules" f2)
    (m_peek : MCal P w K mg base CX0 1 C "peek" p_Line_peek (spPeek C)) (m_take : MCal P w K mg base (L2.CX P w) 4 C "take" p_Line_take (spTake C S)) (m_some_letters : MCal P w K mg base (L2.CX P w) 5 C "some_letters" p_Line_some_letters (spLetters C S)) :
    ∀ j : Nat, MCal P w K mg base (L2.CX P w) (6 + 2 * j) C "read_rule" p_Line_read_rule (spRule C S j) ∧ MCal P w K mg base (L2.CX P w) (7 + 2 * j) C "some_rules" p_Line_some_rules (spParts C S j)
  | 0 => by
    have r0 : MCal P w K mg base (L2.CX P w) 5 C "read_rule" p_Line_read_rule (spR C S 0) := ⟨f1, fd1, ⟨fun _ _ _ _ h => h.elim, fun _ _ _ _ _ _ _ _ _ _ _ _ _ h => h.elim⟩, g1, F1.bindsN (fun _ _ _ _ _ _ us hl => match us, hl with | [_, _], _ => rfl)⟩
    have p0 : MCal P w K mg base (L2.CX P w) 5 C "some_rules" p_Line_some_rules (spP C S 0) := ⟨f2, fd2, ⟨fun _ _ _ _ h => h.elim, fun _ _ _ _ _ _ _ _ _ _ _ _ _ h => h.elim⟩, g2, F2.bindsN (fun _ _ _ _ _ _ us hl => match us, hl with | [_, _], _ => rfl)⟩
    have r1 := ok_read_rule (k := 5) (j := 0) (by decide) g F1 g1 m_peek m_take m_some_letters r0 p0
    exact ⟨r1, ok_some_rules (by decide) g F2 g2 m_peek m_take r1⟩
  | j + 1 => by
    obtain ⟨r, p⟩ := rules_all g F1 g1 F2 g2 m_peek m_take m_some_letters j
    have r1 := ok_read_rule (k := 7 + 2 * j) (j := j + 1) (by omega) g F1 g1 m_peek m_take m_some_letters (r.imp (by omega) fun _ _ _ _ z => z) p
    have r2 := r1.imp (show 7 + 2 * j + 1 ≤ 6 + 2 * (j + 1) by omega) fun _ _ _ _ z => z
    exact ⟨r2, (ok_some_rules (by omega) g F2 g2 m_peek m_take r2).imp (by omega) fun _ _ _ _ z => z⟩
end T65
end
section
/-! W11: a line is made; parse_rule, parse_word, parse_positions. -/
namespace T65
open PySem PySem.Spec PyProof.Rows L2
def LnMk (P : Program) (w : World) (K : PySem.W.Frag) (mg : Str → Option Value) (base : Heap) (C : Addr) : Prop := ∃ (f : Addr) (fd : FuncData), Mk K C f ∧ FnOk P w K mg base CX0 2 f fd p_Line_init (spInit C) ∧ Binds K fd p_Line_init []
theorem pe_line {X : Cx} {C : Addr} {k : Nat} {p pos : Pos} {e1 e2 : Expr} {t : TA} (m : LnMk X.prog X.w X.K X.mg X.base C) (gm : X.mg "Line" = some (.ref C)) (hr : Room k X.A) (ha : PA X [e1, e2] t) (hk : 3 ≤ k := by first | decide | omega) (hg : Gl X "Line" := by rfl)
    (he : starEach [e1, e2] X.env = (false, eval e1 X.env) :: starEach [e2] X.env := by rfl) (hpl : (backTo pos (starEach [e2] X.env)).any (·.1) = false := by rfl) :
    PE X (.Call (.Name "Line" p) [e1, e2] [] pos) (tMake C (spInit C) [] E0 t) := by
  obtain ⟨f, fd, M, F, hb⟩ := m
  exact pe_make M F (hr.mono hk) hg gm hb .nil pass0 ha (by decide) he hpl
theorem Kp.made {H H1 : Hp} {a dx C : Addr} (ha : H a = none) (hd : H dx = none) (k : Kp [a] (upd (upd H dx (.own a)) a (.ins C dx [])) H1) : Kp [] H H1 := by
  have same : ∀ b o, H b = some o → H1 b = some o := fun b o e => by
    have b1 : b ≠ a := ne_of_none e ha
    have b2 : b ≠ dx := ne_of_none e hd
    exact k.kp b o (by simpa using b1) (by rw [upd_ne b1, upd_ne b2]; exact e)
  refine ⟨fun b o _ e => same b o e, ⟨fun b xs e => same b _ e, fun b xs e => same b _ e⟩, fun b e => ?_⟩
  cases z : H b with
  | none => exact absurd z e
  | some o => rw [same b o z]; simp
theorem Kp.loc {H H1 H2 : Hp} {a : Addr} (k : Kp [] H H1) (ha : H a = none) (k2 : Kp [a] H1 H2) : Kp [] H H2 := by
  refine ⟨fun b o n e => k2.kp b o (by simpa using ne_of_none e ha) (k.kp b o n e), ⟨fun b xs e => k2.td.1 b xs (k.td.1 b xs e), fun b xs e => k2.td.2 b xs (k.td.2 b xs e)⟩, fun b e => k2.th b (k.th b e)⟩
theorem Err.loc {S : Addr} {H H1 : Hp} {a : Addr} {n c : Nat} {E : XK} (h : Err S [] H n c E) (k : Kp [] H H1) (ha : H a = none) : Err S [a] H1 n c E := fun H' d k' e => h H' d (k.loc ha k') e
/-- a text is read -/
def Rds (S : Addr) (r : Except (Nat × Nat) PyData) (H : Hp) (Q : VK) (E : XK) : Prop := match r with
  | .ok d => ∀ (H' : Hp) (v : V), Kp [] H H' → DD H' v d → Q v H'
  | .error e => Err S [] H e.1 e.2 E
def spParse (S : Addr) (rd : Str → Except (Nat × Nat) PyData) : Sp := fun vs H Q E => ∃ x : Str, vs = [.str x] ∧ x.length < 2 ^ 17 ∧ Rds S (rd x) H Q E
theorem ok_parse_rule {P : Program} {w : World} {K : PySem.W.Frag} {mg : Str → Option Value} {base : Heap} {C S f : Addr} {fd : FuncData} (g : G65 K mg C S) (F : Fn K "parse_rule" s_parse_rule f fd) (gF : mg "parse_rule" = some (.ref f))
    (mkL : LnMk P w K mg base C) (m_read_rule : MCal P w K mg base (L2.CX P w) 22 C "read_rule" p_Line_read_rule (spRule C S 8)) (m_end : MCal P w K mg base (L2.CX P w) 5 C "end" p_Line_end (spEnd C S)) :
    Cal P w K mg base (L2.CX P w) 23 "parse_rule" p_parse_rule (spParse S fun x => at1 (rdRule x)) := by
  refine cal_of F gF sc_parse_rule (fun vs H Q E h => by obtain ⟨x, rfl, _⟩ := h; rfl) (fun cdv A outer s H vs Q E hr h => ⟨_,
      (pss_cons (ps_set (i := 1) sc_parse_rule.nd rfl (by first | exact Or.inl rfl | exact Or.inr rfl) (pe_line mkL g.Line hr (pa_cons (pv 0) (pa_cons pe_int pa_nil))))
      (pss_cons (ps_set (i := 2) sc_parse_rule.nd rfl (by first | exact Or.inl rfl | exact Or.inr rfl) (pe_mcal m_read_rule g.cls (pv 1) hr tkp (pa_cons pe_int pa_nil)))
      (pss_cons (ps_expr (pe_mcal0 m_end g.cls (pv 1) hr tkp))
      (pss_one (ps_ret (pv 2)))))), ?_⟩) (fun _ _ _ _ _ _ us hl => match us, hl with | [_], _ => rfl)
  obtain ⟨x, rfl, hx, q⟩ := h
  refine ⟨_, rfl, fun a dx ha hdx hne => ⟨a, dx, x, 1, rfl, upd_same, by omega, by decide, fun H1 tl k1 L1 => ⟨rfl, ?_⟩⟩⟩
  have k01 := Kp.made ha hdx k1
  obtain ⟨dx1, us1, i1, _, _⟩ := L1.ex
  refine ⟨_, rfl, a, dx1, _, rfl, i1, rfl, a, tl, _, 1, _, 1, rfl, L1, rfl, by decide, ?_⟩
  replace q : Rds S (at1 (rdRule x)) H Q E := q
  unfold rdRule wholeM at q
  cases e : ruleM (toks x) 8 ⟨0, 0, 0⟩ with
  | error c =>
    rw [e] at q
    exact Err.loc q k01 ha
  | ok z =>
    obtain ⟨d, s5⟩ := z
    rw [e] at q
    intro H5 v k5 L5 t5
    have k05 := k01.loc ha k5
    obtain ⟨dx5, us5, j1, _, _⟩ := L5.ex
    have q2 : Rds S (at1 (if tk (toks x) s5.p = "" then .ok d else .error (cl (toks x) s5.p))) H Q E := q
    refine ⟨_, rfl, a, dx5, _, rfl, j1, rfl, a, tl, _, 1, s5, rfl, L5, fun hz => ?_, fun hz => ?_⟩
    · rw [if_pos hz] at q2
      exact ⟨_, rfl, q2 H5 v k05 (.inl t5)⟩
    · rw [if_neg hz] at q2
      exact Err.loc q2 k05 ha
theorem ok_parse_word {P : Program} {w : World} {K : PySem.W.Frag} {mg : Str → Option Value} {base : Heap} {C S f : Addr} {fd : FuncData} (g : G65 K mg C S) (F : Fn K "parse_word" s_parse_word f fd) (gF : mg "parse_word" = some (.ref f))
    (mkL : LnMk P w K mg base C) (m_peek : MCal P w K mg base CX0 1 C "peek" p_Line_peek (spPeek C)) (m_take : MCal P w K mg base (L2.CX P w) 4 C "take" p_Line_take (spTake C S)) (c_is_letter : Cal P w K mg base CX0 2 "is_letter" p_is_letter spLetter) :
    Cal P w K mg base (L2.CX P w) 5 "parse_word" p_parse_word (spParse S fun x => at1 (rdWord x)) := by
  refine cal_of F gF sc_parse_word (fun vs H Q E h => by obtain ⟨x, rfl, _⟩ := h; rfl) (fun cdv A outer s H vs Q E hr h => ⟨_,
      (pss_cons (ps_par (i := 1) (j := 2) rfl sc_parse_word.nd rfl rfl (by decide) rfl rfl (pa_cons (pe_line mkL g.Line hr (pa_cons (pv 0) (pa_cons pe_int pa_nil))) (pa_cons (pe_lst pa_nil) pa_nil)) rfl)
      (pss_cons (ps_while (passes_of rfl) (pt_cmpR op_ne (pe_mcal0 m_peek g.cls (pv 1) hr pass0) pe_str (nomark _))
        (pss_one (ps_expr (pe_bm PySem.F.plainAttrs_list PySem.F.slot_list_append PySem.F.type_list_append mt_append (pv 2) (pa_cons (pe_mcal m_take g.cls (pv 1) hr tkp (pa_cons (pe_and (pe_cal c_is_letter hr pass0 (pa_cons (pe_mcal0 m_peek g.cls (pv 1) hr pass0) pa_nil)) (pe_one (pe_cmpR op_lt (pe_callB call_len rfl g.len rfl (pa_cons (pv 2) pa_nil)) (pe_gc g.MOST_LETTERS) (nomark _)))) pa_nil)) pa_nil)))))
      (pss_one (ps_ret (pe_callTy call_tuple_of rfl g.tuple rfl (pa_cons (pv 2) pa_nil)))))), ?_⟩) (fun _ _ _ _ _ _ us hl => match us, hl with | [_], _ => rfl)
  obtain ⟨x, rfl, hx, q⟩ := h
  replace q : Rds S (at1 (rdWord x)) H Q E := q
  unfold rdWord at q
  generalize hR : wordM (toks x) (toks x).length [] 0 = R at q
  refine ⟨_, rfl, fun a dx ha hdx hne => ⟨a, dx, x, 1, rfl, upd_same, by omega, by decide, fun H1 tl k1 L1 => ⟨rfl, Nat.zero_le _, fun qf hq => ⟨_, _, rfl, ?_⟩⟩⟩⟩
  have k01 := Kp.made ha hdx k1
  have hq0 := k01.fresh hq
  obtain ⟨qa, ql⟩ := L1.ne hq
  refine ⟨fun m σ H1 => ∃ (s1 : PSt) (ls : List Str), σ = [some (.str x), some (.ref a), some (.ref qf)] ∧ Kp [] H H1 ∧ LnA C H1 a tl (toks x) 1 s1 ∧ H1 qf = some (.lst (ls.map V.str)) ∧ ls.length ≤ s1.p ∧ (toks x).length ≤ s1.p + m ∧ wordM (toks x) m ls s1.p = R,
    ⟨(toks x).length, ⟨0, 0, 0⟩, [], rfl, k01.new hq _, L1.kp0 ((Kp.refl [] H1).new hq _), upd_same, Nat.zero_le _, by show _ ≤ 0 + _; omega, hR⟩, ?_⟩
  rintro m σ H1 ⟨s1, ls, rfl, k1, L1, hf, hle, hfu, he⟩
  obtain ⟨dx, us, h1, h2, h3⟩ := L1.ex
  have lt1 := L1.lt
  obtain ⟨m', rfl⟩ : ∃ m', m = m' + 1 := ⟨m - 1, by omega⟩
  unfold wordM at he
  refine ⟨_, rfl, a, dx, _, rfl, h1, rfl, a, tl, _, 1, s1, rfl, L1, rfl, _, rfl, ite2 (fun h4 => ?_) (fun h4 => ?_)⟩
  · have h4' : tk (toks x) s1.p ≠ "" := by simpa using h4
    rw [if_neg h4'] at he
    refine ⟨_, fun σ' H' z => z, ?_⟩
    refine ⟨_, rfl, .inl ⟨rfl, _, SqL.of hf⟩, _, rfl, a, dx, _, rfl, h1, rfl, ?_⟩
    refine ⟨_, rfl, a, dx, _, rfl, h1, rfl, a, tl, _, 1, s1, rfl, L1, _, rfl, L1.ok.small _, fun H3 k3 => ⟨_, rfl, ?_⟩⟩
    have L3 := L1.kp0 k3
    have k13 := k1.trans k3
    have hf3 := k3.at0 hf
    have bad : (letterM (tk (toks x) s1.p) && decide (ls.length < 30)) = false → Err S [a] H3 1 (cl (toks x) s1.p) E := fun z => by
      rw [z] at he
      simp only [Bool.false_eq_true, if_false] at he
      rw [← he] at q
      exact Err.loc q k13 ha
    have step : ∀ b : Bool, b = (letterM (tk (toks x) s1.p) && decide (ls.length < 30)) → spTake C S [.ref a, .bl b] H3 (fun v H4 => ∃ l xs y, V.ref qf = .ref l ∧ [v] = [y] ∧ H4 l = some (.lst xs) ∧ xs.length < sizeLine ∧ ∃ m'', m'' < m' + 1 ∧ ∃ (s1 : PSt) (ls : List Str), [some (V.str x), some (V.ref a), some (V.ref qf)] = [some (.str x), some (.ref a), some (.ref qf)] ∧
        Kp [] H (upd H4 l (.lst (xs ++ [y]))) ∧ LnA C (upd H4 l (.lst (xs ++ [y]))) a tl (toks x) 1 s1 ∧ upd H4 l (.lst (xs ++ [y])) qf = some (.lst (ls.map V.str)) ∧ ls.length ≤ s1.p ∧ (toks x).length ≤ s1.p + m'' ∧ wordM (toks x) m'' ls s1.p = R) E := by
      rintro b rfl
      refine ⟨a, tl, _, _, 1, s1, rfl, L3, fun hne hk H4 k4 L4 => ?_, fun hz => ?_⟩
      · have hf4 : H4 qf = some (.lst (ls.map V.str)) := k4.at_ hf3 (by simpa using qa)
        refine ⟨qf, _, _, rfl, rfl, hf4, ?_, m', Nat.lt_succ_self _, ⟨s1.p + 1, s1.r, s1.l⟩, ls ++ [tk (toks x) s1.p], rfl, (k13.loc ha k4).upN hq0 _, L4.other qa ql hf4, by rw [upd_same, List.map_append]; rfl, by rw [List.length_append]; show ls.length + 1 ≤ s1.p + 1; omega, by show (toks x).length ≤ s1.p + 1 + m'; omega, ?_⟩
        · rw [List.length_map, sizeLine_eq]
          have := L1.ok.len
          omega
        · rw [if_pos hk] at he
          exact he
      · refine bad ?_
        rcases hz with z | z
        · exact absurd z h4'
        · exact z
    refine ite2 (fun h5 => ?_) (fun h5 => ?_)
    · refine ⟨_, rfl, _, _, rfl, .inl ⟨_, SqL.of hf3, rfl⟩, _, _, rfl, rfl, ?_⟩
      dsimp only [tNil]
      refine step _ ?_
      rw [h5, Bool.true_and, List.length_map]
      exact decide_eq_decide.mpr (by omega)
    · dsimp only [tNil]
      refine step false ?_
      rw [Bool.not_eq_true _ |>.mp h5]
      rfl
  · have h4' : tk (toks x) s1.p = "" := by simpa using h4
    rw [if_pos h4'] at he
    rw [← he] at q
    refine ⟨_, rfl, qf, _, rfl, .inl ⟨SqL.of hf, fun l hl => ?_⟩⟩
    exact q _ _ (k1.new hl _) (.inl (TD.tup upd_same (TDs.strs ls)))
theorem TDs.nats {H : Hp} : ∀ ns : List Nat, TDs H (ns.map fun n => V.int (n : Nat)) (ns.map fun n => PyData.int (n : Nat))
  | [] => .nil
  | x :: r => .cons (.int x) (TDs.nats r)
theorem ok_parse_positions {P : Program} {w : World} {K : PySem.W.Frag} {mg : Str → Option Value} {base : Heap} {C S f : Addr} {fd : FuncData} (g : G65 K mg C S) (F : Fn K "parse_positions" s_parse_positions f fd) (gF : mg "parse_positions" = some (.ref f))
    (mkL : LnMk P w K mg base C) (m_peek : MCal P w K mg base CX0 1 C "peek" p_Line_peek (spPeek C)) (m_integer : MCal P w K mg base (L2.CX P w) 5 C "integer" p_Line_integer (spInteger C S)) :
    Cal P w K mg base (L2.CX P w) 6 "parse_positions" p_parse_positions (spParse S fun x => at1 (rdPos x)) := by
  refine cal_of F gF sc_parse_positions (fun vs H Q E h => by obtain ⟨x, rfl, _⟩ := h; rfl) (fun cdv A outer s H vs Q E hr h => ⟨_,
      (pss_cons (ps_par (i := 1) (j := 2) rfl sc_parse_positions.nd rfl rfl (by decide) rfl rfl (pa_cons (pe_line mkL g.Line hr (pa_cons (pv 0) (pa_cons pe_int pa_nil))) (pa_cons (pe_lst pa_nil) pa_nil)) rfl)
      (pss_cons (ps_while (passes_of rfl) (pt_cmpR op_ne (pe_mcal0 m_peek g.cls (pv 1) hr pass0) pe_str (nomark _))
        (pss_one (ps_expr (pe_bm PySem.F.plainAttrs_list PySem.F.slot_list_append PySem.F.type_list_append mt_append (pv 2) (pa_cons (pe_mcal m_integer g.cls (pv 1) hr tkp (pa_cons (pe_gc g.MOST_LETTERS) pa_nil)) pa_nil)))))
      (pss_one (ps_ret (pe_callTy call_tuple_of rfl g.tuple rfl (pa_cons (pv 2) pa_nil)))))), ?_⟩) (fun _ _ _ _ _ _ us hl => match us, hl with | [_], _ => rfl)
  obtain ⟨x, rfl, hx, q⟩ := h
  replace q : Rds S (at1 (rdPos x)) H Q E := q
  unfold rdPos at q
  generalize hR : posM (toks x) (toks x).length [] 0 = R at q
  refine ⟨_, rfl, fun a dx ha hdx hne => ⟨a, dx, x, 1, rfl, upd_same, by omega, by decide, fun H1 tl k1 L1 => ⟨rfl, Nat.zero_le _, fun qf hq => ⟨_, _, rfl, ?_⟩⟩⟩⟩
  have k01 := Kp.made ha hdx k1
  have hq0 := k01.fresh hq
  obtain ⟨qa, ql⟩ := L1.ne hq
  refine ⟨fun m σ H1 => ∃ (s1 : PSt) (ls : List Nat), σ = [some (.str x), some (.ref a), some (.ref qf)] ∧ Kp [] H H1 ∧ LnA C H1 a tl (toks x) 1 s1 ∧ H1 qf = some (.lst (ls.map fun n => V.int (n : Nat))) ∧ ls.length ≤ s1.p ∧ (toks x).length ≤ s1.p + m ∧ posM (toks x) m ls s1.p = R,
    ⟨(toks x).length, ⟨0, 0, 0⟩, [], rfl, k01.new hq _, L1.kp0 ((Kp.refl [] H1).new hq _), upd_same, Nat.zero_le _, by show _ ≤ 0 + _; omega, hR⟩, ?_⟩
  rintro m σ H1 ⟨s1, ls, rfl, k1, L1, hf, hle, hfu, he⟩
  obtain ⟨dx, us, h1, h2, h3⟩ := L1.ex
  have lt1 := L1.lt
  obtain ⟨m', rfl⟩ : ∃ m', m = m' + 1 := ⟨m - 1, by omega⟩
  unfold posM at he
  refine ⟨_, rfl, a, dx, _, rfl, h1, rfl, a, tl, _, 1, s1, rfl, L1, rfl, _, rfl, ite2 (fun h4 => ?_) (fun h4 => ?_)⟩
  · have h4' : tk (toks x) s1.p ≠ "" := by simpa using h4
    rw [if_neg h4'] at he
    refine ⟨_, fun σ' H' z => z, ?_⟩
    refine ⟨_, rfl, .inl ⟨rfl, _, SqL.of hf⟩, _, rfl, a, dx, _, rfl, h1, rfl, a, tl, _, 1, 30, s1, rfl, L1, .inl rfl, fun i hi H4 k4 L4 => ?_, fun hz => ?_⟩
    · rw [hi] at he
      have hf4 := k4.at_ hf (by simpa using qa)
      refine ⟨qf, _, _, rfl, rfl, hf4, ?_, m', Nat.lt_succ_self _, ⟨s1.p + 1, s1.r, s1.l⟩, ls ++ [i], rfl, (k1.loc ha k4).upN hq0 _, L4.other qa ql hf4, by rw [upd_same, List.map_append]; rfl, by rw [List.length_append]; show ls.length + 1 ≤ s1.p + 1; omega, by show (toks x).length ≤ s1.p + 1 + m'; omega, he⟩
      rw [List.length_map, sizeLine_eq]
      have := L1.ok.len
      omega
    · rw [hz] at he
      have he' : (.error (cl (toks x) s1.p) : Except Nat (List Nat)) = R := he
      rw [← he'] at q
      exact Err.loc q k1 ha
  · have h4' : tk (toks x) s1.p = "" := by simpa using h4
    rw [if_pos h4'] at he
    rw [← he] at q
    refine ⟨_, rfl, qf, _, rfl, .inl ⟨SqL.of hf, fun l hl => ?_⟩⟩
    exact q _ _ (k1.new hl _) (.inl (TD.tup upd_same (TDs.nats ls)))
end T65
end
section
/-! W12: parse_route. -/
namespace T65
open PySem PySem.Spec PyProof.Rows L2
theorem seq_Z {t v : TS} {D : Ends} {σ : L2.St} {H : Hp} (h : ∀ Z : L2.St → Hp → Prop, Z = v D → t { D with nx := Z } σ H) : tSeq t v D σ H := h _ rfl
theorem nil_iff {H : Hp} {vs : List V} {ds : List PyData} (h : TDs H vs ds) : vs.isEmpty = decide (ds = []) := by
  cases h with
  | nil => rfl
  | cons _ _ => rfl
theorem ok_parse_route {P : Program} {w : World} {K : PySem.W.Frag} {mg : Str → Option Value} {base : Heap} {C S f : Addr} {fd : FuncData} (g : G65 K mg C S) (F : Fn K "parse_route" s_parse_route f fd) (gF : mg "parse_route" = some (.ref f))
    (mkL : LnMk P w K mg base C) (m_peek : MCal P w K mg base CX0 1 C "peek" p_Line_peek (spPeek C)) (m_take : MCal P w K mg base (L2.CX P w) 4 C "take" p_Line_take (spTake C S)) (m_integer : MCal P w K mg base (L2.CX P w) 5 C "integer" p_Line_integer (spInteger C S))
    (c_is_name : Cal P w K mg base CX0 1 "is_name" p_is_name spName) (c_figures_in : Cal P w K mg base CX0 1 "figures_in" p_figures_in spFigs) :
    Cal P w K mg base (L2.CX P w) 6 "parse_route" p_parse_route (spParse S fun x => at1 (rdRoute x)) := by
  refine cal_of F gF sc_parse_route (fun vs H Q E h => by obtain ⟨x, rfl, _⟩ := h; rfl) (fun cdv A outer s H vs Q E hr h => ⟨_,
      (pss_cons (ps_par (i := 1) (j := 2) rfl sc_parse_route.nd rfl rfl (by decide) rfl rfl (pa_cons (pe_line mkL g.Line hr (pa_cons (pv 0) (pa_cons pe_int pa_nil))) (pa_cons (pe_lst pa_nil) pa_nil)) rfl)
      (pss_cons (ps_while (passes_of rfl) (pt_cmpR op_ne (pe_mcal0 m_peek g.cls (pv 1) hr pass0) pe_str (nomark _))
        (pss_cons (ps_if (pt_cmpR (op_neNil (hu64 hr)) (pv 2) (pe_lst pa_nil) (nomark _))
          (pss_one (ps_expr (pe_mcal m_take g.cls (pv 1) hr tkp (pa_cons (pe_cmpR op_eq (pe_mcal0 m_peek g.cls (pv 1) hr pass0) pe_str (nomark _)) pa_nil))))
          pss_nil)
        (pss_cons (ps_if (pt_cmpR op_eq (pe_callB call_len rfl g.len rfl (pa_cons (pv 2) pa_nil)) (pe_gc g.MOST_STEPS) (nomark _))
          (pss_one (ps_expr (pe_mcal m_take g.cls (pv 1) hr tkp (pa_cons pe_bl pa_nil))))
          pss_nil)
        (pss_cons (ps_par (i := 3) (j := 4) rfl sc_parse_route.nd rfl rfl (by decide) rfl rfl (pa_cons (pe_mcal m_integer g.cls (pv 1) hr tkp (pa_cons (pe_gc g.MOST_LETTERS) pa_nil)) (pa_cons (pe_mcal m_integer g.cls (pv 1) hr tkp (pa_cons (pe_gc g.MOST_LETTERS) pa_nil)) pa_nil)) rfl)
        (pss_cons (ps_set (i := 5) sc_parse_route.nd rfl (by first | exact Or.inl rfl | exact Or.inr rfl) (pe_cal c_figures_in hr pass0 (pa_cons (pe_mcal0 m_peek g.cls (pv 1) hr pass0) (pa_cons (pe_gc g.MOST_NUMBER) pa_nil))))
        (pss_cons (ps_set (i := 6) sc_parse_route.nd rfl (by first | exact Or.inl rfl | exact Or.inr rfl) (pe_mcal m_take g.cls (pv 1) hr tkp (pa_cons (pe_or (pe_cmpR op_notN (pv 5) pe_non (nomark _)) (pe_one (pe_cal c_is_name hr pass0 (pa_cons (pe_mcal0 m_peek g.cls (pv 1) hr pass0) pa_nil)))) pa_nil)))
        (pss_one (ps_expr (pe_bm PySem.F.plainAttrs_list PySem.F.slot_list_append PySem.F.type_list_append mt_append (pv 2) (pa_cons (pe_tup (pa_cons (pv 3) (pa_cons (pv 4) (pa_cons (pe_ifExp (pt_cmpR op_isN (pv 5) pe_non (nomark _)) (pv 6) (pv 5)) pa_nil)))) pa_nil))))))))))
      (pss_one (ps_ret (pe_callTy call_tuple_of rfl g.tuple rfl (pa_cons (pv 2) pa_nil)))))), ?_⟩) (fun _ _ _ _ _ _ us hl => match us, hl with | [_], _ => rfl)
  obtain ⟨x, rfl, hx, q⟩ := h
  replace q : Rds S (at1 (rdRoute x)) H Q E := q
  unfold rdRoute at q
  generalize hR : routeM (toks x) (toks x).length [] 0 = R at q
  refine ⟨_, rfl, fun a dx ha hdx hne => ⟨a, dx, x, 1, rfl, upd_same, by omega, by decide, fun H1 tl k1 L1 => ⟨rfl, Nat.zero_le _, fun qf hq => ⟨_, _, rfl, ?_⟩⟩⟩⟩
  have k01 := Kp.made ha hdx k1
  have hq0 := k01.fresh hq
  obtain ⟨qa, ql⟩ := L1.ne hq
  have qN : ∀ (c : Nat), (.error c : Except Nat (List PyData)) = R → Err S [] H 1 c E := fun c e => by
    rw [← e] at q
    exact q
  refine ⟨fun m σ H1 => ∃ (s1 : PSt) (vs : List V) (ds : List PyData) (e3 e4 e5 e6 : Option V), σ = [some (.str x), some (.ref a), some (.ref qf), e3, e4, e5, e6] ∧ Kp [] H H1 ∧ LnA C H1 a tl (toks x) 1 s1 ∧ H1 qf = some (.lst vs) ∧ TDs H1 vs ds ∧ ds.length ≤ s1.p ∧ (toks x).length ≤ s1.p + m ∧ routeM (toks x) m ds s1.p = R,
    ⟨(toks x).length, ⟨0, 0, 0⟩, [], [], none, none, none, none, rfl, k01.new hq _, L1.kp0 ((Kp.refl [] H1).new hq _), upd_same, .nil, Nat.zero_le _, by show _ ≤ 0 + _; omega, hR⟩, ?_⟩
  rintro m σ H1 ⟨s1, vs, ds, e3, e4, e5, e6, rfl, k1, L1, hf, hds, hle, hfu, he⟩
  obtain ⟨dx, us, h1, h2, h3⟩ := L1.ex
  have lt1 := L1.lt
  obtain ⟨m', rfl⟩ : ∃ m', m = m' + 1 := ⟨m - 1, by omega⟩
  unfold routeM at he
  have hlen := hds.len
  refine ⟨_, rfl, a, dx, _, rfl, h1, rfl, a, tl, _, 1, s1, rfl, L1, rfl, _, rfl, ite2 (fun h4 => ?_) (fun h4 => ?_)⟩
  · have h4' : tk (toks x) s1.p ≠ "" := by simpa using h4
    rw [if_neg h4'] at he
    refine ⟨_, fun σ' H' z => z, ?_⟩
    refine seq_Z fun Z hZ => ?_
    have tail : ∀ (H3 : Hp) (s3 : PSt), Kp [] H H3 → LnA C H3 a tl (toks x) 1 s3 → H3 qf = some (.lst vs) → TDs H3 vs ds → s1.p ≤ s3.p →
        (if ds.length = 60 then (.error (cl (toks x) s3.p) : Except Nat (List PyData)) else match stepM (toks x) s3.p with
          | .error c => .error c
          | .ok d => routeM (toks x) m' (ds ++ [d]) (s3.p + 3)) = R → Z [some (.str x), some (.ref a), some (.ref qf), e3, e4, e5, e6] H3 := by
      intro H3 s3 k3 L3 hf3 hd3 hp3 e
      rw [hZ]
      obtain ⟨dx3, us3, i1, _, _⟩ := L3.ex
      refine ⟨_, rfl, _, _, rfl, .inl ⟨_, SqL.of hf3, rfl⟩, rfl, _, rfl, ite2 (fun h5 => ?_) (fun h5 => ?_)⟩
      · have h5' : ds.length = 60 := by
          have : V.int (vs.length : Nat) = V.int 60 := of_decide_eq_true h5
          injection this with this
          omega
        rw [if_pos h5'] at e
        exact ⟨_, rfl, a, dx3, _, rfl, i1, rfl, a, tl, false, _, 1, s3, rfl, L3, (fun _ z => by cases z), fun _ => Err.loc (qN _ e) k3 ha⟩
      · have h5' : ¬ ds.length = 60 := fun z => h5 (decide_eq_true (by rw [hlen, z]; rfl))
        rw [if_neg h5'] at e
        unfold stepM at e
        refine ⟨_, rfl, a, dx3, _, rfl, i1, rfl, a, tl, _, 1, 30, s3, rfl, L3, .inl rfl, fun n1 hn1 H4 k4 L4 => ?_, fun hz => ?_⟩
        · have k04 := k3.loc ha k4
          have hf4 := k4.at_ hf3 (by simpa using qa)
          have hd4 := hd3.tu k4.tu
          rw [hn1] at e
          obtain ⟨dx4, us4, j1, _, _⟩ := L4.ex
          refine ⟨_, rfl, a, dx4, _, rfl, j1, rfl, a, tl, _, 1, 30, _, rfl, L4, .inl rfl, fun n2 hn2 H5 k5 L5 => ?_, fun hz => ?_⟩
          · replace hn2 : figsM (tk (toks x) (s3.p + 1)) 30 = some n2 := hn2
            have k05 := k04.loc ha k5
            have hf5 := k5.at_ hf4 (by simpa using qa)
            have hd5 := hd4.tu k5.tu
            refine ⟨_, _, rfl, ?_⟩
            obtain ⟨dx5, us5, l1, _, _⟩ := L5.ex
            refine ⟨_, rfl, a, dx5, _, rfl, l1, rfl, a, tl, _, 1, _, rfl, L5, _, 9999, rfl, L5.ok.small _, .inr (.inl rfl), fun H6 k6 => ?_⟩
            have L6 := L5.kp0 k6
            have k06 := k05.trans k6
            have hf6 := k6.at0 hf5
            have hd6 := hd5.tu k6.tu
            have l6 := k6.at0 l1
            have e' : (match nameD (tk (toks x) (s3.p + 2)) with
              | none => (.error (cl (toks x) (s3.p + 2)) : Except Nat (List PyData))
              | some d => routeM (toks x) m' (ds ++ [.tuple [.int (n1 : Nat), .int (n2 : Nat), d]]) (s3.p + 3)) = R := by
              rw [← e]
              show _ = (match (match figsM (tk (toks x) (s3.p + 1)) 30 with
                | none => (.error (cl (toks x) (s3.p + 1)) : Except Nat PyData)
                | some b => match nameD (tk (toks x) (s3.p + 2)) with
                  | none => .error (cl (toks x) (s3.p + 2))
                  | some d => .ok (.tuple [.int (n1 : Nat), .int (b : Nat), d])) with
                | .error c => (.error c : Except Nat (List PyData))
                | .ok d => routeM (toks x) m' (ds ++ [d]) (s3.p + 3))
              rw [hn2]
              show _ = (match (match nameD (tk (toks x) (s3.p + 2)) with
                  | none => (.error (cl (toks x) (s3.p + 2)) : Except Nat PyData)
                  | some d => .ok (.tuple [.int (n1 : Nat), .int (n2 : Nat), d])) with
                | .error c => (.error c : Except Nat (List PyData))
                | .ok d => routeM (toks x) m' (ds ++ [d]) (s3.p + 3))
              cases nameD (tk (toks x) (s3.p + 2)) <;> rfl
            -- the name is taken and the step is put
            have take : ∀ (b : Bool) (H7 : Hp) (Kc : VK), b = (nameD (tk (toks x) (s3.p + 2))).isSome → Kp [] H6 H7 → (∀ H8, Kp [] H H8 → LnA C H8 a tl (toks x) 1 ⟨s3.p + 3, s3.r, s3.l⟩ → H8 qf = some (.lst vs) → TDs H8 vs ds → b = true → Kc (.str (tk (toks x) (s3.p + 2))) H8) →
                spTake C S [.ref a, .bl b] H7 Kc E := by
              intro b H7 Kc hb k7 hK
              have k07 := k06.trans k7
              refine ⟨a, tl, b, _, 1, ⟨s3.p + 2, s3.r, s3.l⟩, rfl, L6.kp0 k7, fun hne hk H8 k8 L8 => hK H8 (k07.loc ha k8) L8 (k8.at_ (k7.at0 hf6) (by simpa using qa)) ((hd6.tu k7.tu).tu k8.tu) hk, fun hz => ?_⟩
              have hn : nameD (tk (toks x) (s3.p + 2)) = none := by
                rcases hz with z | z
                · have z' : tk (toks x) (s3.p + 2) = "" := z
                  rw [z']
                  rfl
                · rw [hb] at z
                  cases en : nameD (tk (toks x) (s3.p + 2)) with
                  | none => rfl
                  | some d => rw [en] at z; cases z
              rw [hn] at e'
              exact Err.loc (qN _ e') k07 ha
            have put : ∀ (H8 : Hp) (d : PyData) (nv : V) (e6' : Option V) (e5' : V), nameD (tk (toks x) (s3.p + 2)) = some d → Kp [] H H8 → LnA C H8 a tl (toks x) 1 ⟨s3.p + 3, s3.r, s3.l⟩ → H8 qf = some (.lst vs) → TDs H8 vs ds → TD H8 nv d → ∀ p, H8 p = none →
                rAppend (.ref qf) [.ref p] (upd H8 p (.tup [.int (n1 : Nat), .int (n2 : Nat), nv])) (fun _ H1 => ∃ m'', m'' < m' + 1 ∧ ∃ (s1 : PSt) (vs : List V) (ds : List PyData) (e3 e4 e5 e6 : Option V), [some (V.str x), some (.ref a), some (.ref qf), some (.int (n1 : Nat)), some (.int (n2 : Nat)), some e5', e6'] = [some (.str x), some (.ref a), some (.ref qf), e3, e4, e5, e6] ∧
                  Kp [] H H1 ∧ LnA C H1 a tl (toks x) 1 s1 ∧ H1 qf = some (.lst vs) ∧ TDs H1 vs ds ∧ ds.length ≤ s1.p ∧ (toks x).length ≤ s1.p + m'' ∧ routeM (toks x) m'' ds s1.p = R) := by
              intro H8 d nv e6' e5' hn k8 L8 hf8 hd8 tn p hp
              have hf9 : upd H8 p (.tup [.int (n1 : Nat), .int (n2 : Nat), nv]) qf = some (.lst vs) := by rw [upd_ne (ne_of_none hf8 hp)]; exact hf8
              rw [hn] at e'
              refine ⟨qf, _, _, rfl, rfl, hf9, ?_, m', Nat.lt_succ_self _, ⟨s3.p + 3, s3.r, s3.l⟩, vs ++ [.ref p], ds ++ [.tuple [.int (n1 : Nat), .int (n2 : Nat), d]], _, _, _, _, rfl, (k8.new hp _).upN hq0 _, (L8.kp0 ((Kp.refl [] H8).new hp _)).other qa ql hf9, upd_same, ?_, ?_, ?_, e'⟩
              · rw [sizeLine_eq]
                have := L1.ok.len
                omega
              · refine ((hd8.tu (Tu.new hp)).app (TDs.one (TD.tup upd_same (.cons (.int _) (.cons (.int _) (TDs.one (tn.tu (Tu.new hp)))))))).tu (Tu.lst hf9)
              · rw [List.length_append]
                show ds.length + 1 ≤ s3.p + 3
                omega
              · show (toks x).length ≤ s3.p + 3 + m'
                omega
            refine ⟨_, rfl, a, dx5, _, rfl, l6, rfl, ?_⟩
            cases hfig : figsM (tk (toks x) (s3.p + 2)) 9999 with
            | some i =>
              have hnd : nameD (tk (toks x) (s3.p + 2)) = some (.int (i : Nat)) := by
                unfold nameD
                rw [hfig]
              refine ⟨_, rfl, rfl, true, rfl, ?_⟩
              dsimp only [tNil]
              rw [if_pos rfl]
              refine take true H6 _ (by rw [hnd]; rfl) (Kp.refl [] H6) fun H8 k8 L8 hf8 hd8 _ => ?_
              refine ⟨_, rfl, .inl ⟨rfl, _, SqL.of hf8⟩, _, rfl, _, rfl, _, rfl, rfl, _, rfl, _, rfl, (by show 3 ≤ sizeLine; decide), fun p hp => ?_⟩
              exact put H8 _ _ _ _ hnd k8 L8 hf8 hd8 (.int _) p hp
            | none =>
              refine ⟨_, rfl, rfl, false, rfl, _, rfl, a, dx5, _, rfl, l6, rfl, a, tl, _, 1, _, rfl, L6, _, rfl, L6.ok.small _, fun H7 k7 => ?_⟩
              dsimp only [tNil]
              have hnd : nameD (tk (toks x) (s3.p + 2)) = if nameM (tk (toks x) (s3.p + 2)) = true then some (.str (tk (toks x) (s3.p + 2))) else none := by
                unfold nameD
                rw [hfig]
              refine take _ H7 _ ?_ k7 fun H8 k8 L8 hf8 hd8 hb => ?_
              · rw [hnd]
                show nameM (tk (toks x) (s3.p + 2)) = _
                cases nameM (tk (toks x) (s3.p + 2)) <;> rfl
              · replace hb : nameM (tk (toks x) (s3.p + 2)) = true := hb
                rw [if_pos hb] at hnd
                refine ⟨_, rfl, .inl ⟨rfl, _, SqL.of hf8⟩, _, rfl, _, rfl, _, rfl, rfl, _, rfl, _, rfl, (by show 3 ≤ sizeLine; decide), fun p hp => ?_⟩
                exact put H8 _ _ _ _ hnd k8 L8 hf8 hd8 (.str _) p hp
          · replace hz : figsM (tk (toks x) (s3.p + 1)) 30 = none := hz
            have e' : (.error (cl (toks x) (s3.p + 1)) : Except Nat (List PyData)) = R := by
              rw [← e]
              show _ = (match (match figsM (tk (toks x) (s3.p + 1)) 30 with
                | none => (.error (cl (toks x) (s3.p + 1)) : Except Nat PyData)
                | some b => match nameD (tk (toks x) (s3.p + 2)) with
                  | none => .error (cl (toks x) (s3.p + 2))
                  | some d => .ok (.tuple [.int (n1 : Nat), .int (b : Nat), d])) with
                | .error c => (.error c : Except Nat (List PyData))
                | .ok d => routeM (toks x) m' (ds ++ [d]) (s3.p + 3))
              rw [hz]
            exact Err.loc (qN _ e') k04 ha
        · rw [hz] at e
          exact Err.loc (qN _ e) k3 ha
    refine ⟨_, rfl, Nat.zero_le _, fun p hp => ⟨qf, p, vs, rfl, rfl, ?_, SqL.of upd_same, _, rfl, ite2 (fun h5 => ?_) (fun h5 => ?_)⟩⟩
    · exact SqL.of (by rw [upd_ne (ne_of_none hf hp)]; exact hf)
    · have hne : ds ≠ [] := fun z => by
        rw [nil_iff hds, decide_eq_true z] at h5
        cases h5
      rw [if_neg hne] at he
      have k2 := k1.new hp (.lst [])
      have L2' := L1.kp0 ((Kp.refl [] H1).new hp (.lst []))
      obtain ⟨dx2, us2, i1, _, _⟩ := L2'.ex
      have hf2 : upd H1 p (.lst []) qf = some (.lst vs) := by rw [upd_ne (ne_of_none hf hp)]; exact hf
      refine ⟨_, rfl, a, dx2, _, rfl, i1, rfl, _, rfl, a, dx2, _, rfl, i1, rfl, a, tl, _, 1, s1, rfl, L2', rfl, a, tl, _, _, 1, s1, rfl, L2', fun hn hk H4 k4 L4 => ?_, fun hz => ?_⟩
      · have hk' : tk (toks x) s1.p = "," := by simpa using hk
        rw [if_pos hk'] at he
        exact tail H4 ⟨s1.p + 1, s1.r, s1.l⟩ (k2.loc ha k4) L4 (k4.at_ hf2 (by simpa using qa)) ((hds.tu (Tu.new hp)).tu k4.tu) (Nat.le_succ _) he
      · have hz' : tk (toks x) s1.p ≠ "," := by
          rcases hz with z | z
          · rw [z]
            decide
          · simpa using z
        rw [if_neg hz'] at he
        exact Err.loc (qN _ he) k2 ha
    · have hnil : ds = [] := by
        rw [nil_iff hds] at h5
        simpa using h5
      rw [if_pos hnil] at he
      refine tail _ s1 (k1.new hp _) (L1.kp0 ((Kp.refl [] H1).new hp _)) (by rw [upd_ne (ne_of_none hf hp)]; exact hf) (hds.tu (Tu.new hp)) (Nat.le_refl _) ?_
      rw [if_neg (by rw [hnil]; decide)]
      exact he
  · have h4' : tk (toks x) s1.p = "" := by simpa using h4
    rw [if_pos h4'] at he
    rw [← he] at q
    refine ⟨_, rfl, qf, _, rfl, .inl ⟨SqL.of hf, fun l hl => ?_⟩⟩
    exact q _ _ (k1.new hl _) (.inl (TD.tup upd_same (hds.tu (Tu.new hl))))
end T65
end
section
/-! W13: lines_of. -/
namespace T65
open PySem PySem.Spec PyProof.Rows L2
abbrev LnP := Addr × (TkL × Nat)
/-- Lines of one's own, at their start -/
structure LnsA (C : Addr) (H0 H : Hp) (ps : List LnP) : Prop where
  nd : (ps.map (·.1)).Nodup
  all : ∀ q ∈ ps, ∃ tl, LnA C H q.1 tl q.2.1 q.2.2 ⟨0, 0, 0⟩ ∧ H0 q.1 = none
theorem LnsA.kp0 {C : Addr} {H0 H H' : Hp} {ps : List LnP} (L : LnsA C H0 H ps) (k : Kp [] H H') : LnsA C H0 H' ps := ⟨L.nd, fun q hq => by
  obtain ⟨tl, h1, h2⟩ := L.all q hq
  exact ⟨tl, h1.kp0 k, h2⟩⟩
theorem LnsA.lst {C : Addr} {H0 H : Hp} {ps : List LnP} {D : Addr} {xs ys : List V} (L : LnsA C H0 H ps) (e : H D = some (.lst xs)) (hD : ∀ q ∈ ps, ∀ tl, LnA C H q.1 tl q.2.1 q.2.2 ⟨0, 0, 0⟩ → D ≠ tl) : LnsA C H0 (upd H D (.lst ys)) ps := ⟨L.nd, fun q hq => by
  obtain ⟨tl, h1, h2⟩ := L.all q hq
  obtain ⟨_, _, i1, _⟩ := h1.ex
  exact ⟨tl, h1.other (Ne.symm (ne_of i1 e (by simp))) (hD q hq tl h1) e, h2⟩⟩
def spLines (C : Addr) : Sp := fun vs H Q _ => ∃ x : Str, vs = [.str x] ∧ x.length < 2 ^ 17 ∧ ∀ (H' : Hp) (l : Addr) (ps : List LnP), Kp [] H H' → H l = none → H' l = some (.lst (ps.map fun q => .ref q.1)) → LnsA C H H' ps → ps.map (·.2) = linesM x → (∀ q ∈ ps, ∀ tl, LnA C H' q.1 tl q.2.1 q.2.2 ⟨0, 0, 0⟩ → l ≠ tl) → Q (.ref l) H'
theorem LnA.tl_uniq {C : Addr} {H : Hp} {a tl tl' : Addr} {T T' : TkL} {n n' : Nat} {s s' : PSt} (L : LnA C H a tl T n s) (L' : LnA C H a tl' T' n' s') : tl = tl' := by
  obtain ⟨dx, us, h1, _⟩ := L.ex
  obtain ⟨dx', us', h1', _⟩ := L'.ex
  have e := h1.symm.trans h1'
  injection e with e
  injection e with _ _ e
  injection e with e _
  injection e with _ e
  injection e
theorem ok_lines_of {P : Program} {w : World} {K : PySem.W.Frag} {mg : Str → Option Value} {base : Heap} {C S f : Addr} {fd : FuncData} (g : G65 K mg C S) (F : Fn K "lines_of" s_lines_of f fd) (gF : mg "lines_of" = some (.ref f))
    (mkL : LnMk P w K mg base C) (m_peek : MCal P w K mg base CX0 1 C "peek" p_Line_peek (spPeek C)) : Cal P w K mg base CX0 4 "lines_of" p_lines_of (spLines C) := by
  refine cal_of F gF sc_lines_of (fun vs H Q E h => by obtain ⟨x, rfl, _⟩ := h; rfl) (fun cdv A outer s H vs Q E hr h => ⟨_,
      (pss_cons (ps_setLc rfl sc_lines_of.nd (i := 1) rfl rfl (sw_true rfl rfl rfl rfl) (pi_enum rfl g.enumerate (pa_cons (pe_split (pv 0) pe_str) pa_nil)) (own := [("place", 2), ("line", 3)]) (blkOk_by (by kernel_rfl)) (fun _ _ _ _ _ => (pg_tupK (K := K) (n := 2) rfl rfl (pgs_cons (pg_name (i := 2) sc_lines_of.nd rfl (by first | exact Or.inl rfl | exact Or.inr rfl)) (pgs_cons (pg_name (i := 3) sc_lines_of.nd rfl (by first | exact Or.inl rfl | exact Or.inr rfl)) pgs_nil)))) (fun _ _ _ _ _ => pts_nil) (fun _ _ _ _ _ => (pe_line mkL g.Line hr (pa_cons (pv 3) (pa_cons (pe_op op_add (pv 2) pe_int) pa_nil)))))
      (pss_one (ps_ret (pe_lc rfl sc_lines_of.nd (pi_listK (K := K) rfl (pv 1)) (own := [("line", 3)]) (blkOk_by (by kernel_rfl)) (fun _ _ _ _ _ => (pg_name (i := 3) sc_lines_of.nd rfl (by first | exact Or.inl rfl | exact Or.inr rfl))) (fun _ _ _ _ _ => (pts_one (pt_cmpR op_ne (pe_mcal0 m_peek g.cls (pv 3) hr pass0) pe_str (nomark _)))) (fun _ _ _ _ _ => (pv 3)))))), ?_⟩) (fun _ _ _ _ _ _ us hl => match us, hl with | [_], _ => rfl)
  obtain ⟨x, rfl, hx, fin⟩ := h
  have hs2 : x.length + 2 ≤ sizeLine := by rw [sizeLine_eq]; omega
  obtain ⟨sm1, sm2⟩ := split_small x
  generalize hp : Txt.split x "\n" = parts at sm1 sm2
  refine ⟨_, rfl, ⟨x, rfl⟩, _, _, rfl, rfl, by decide +kernel, hs2, fun p hp0 => ?_⟩
  rw [hp]
  have k1 := (Kp.refl [] H).new hp0 (.lst (parts.map V.str))
  refine ⟨p, _, rfl, SqL.of upd_same, fun D hD => ?_⟩
  have hD0 := k1.fresh hD
  have pD : p ≠ D := ne_of_none upd_same hD
  refine lc_by parts.length (fun i H2 => ∃ ps : List LnP, Kp [] H H2 ∧ H2 p = some (.lst (parts.map V.str)) ∧ H2 D = some (.lst (ps.map fun q => .ref q.1)) ∧ LnsA C H H2 ps ∧ ps.map (·.2) = linesOf 0 (parts.take i) ∧ (∀ q ∈ ps, ∀ tl, LnA C H2 q.1 tl q.2.1 q.2.2 ⟨0, 0, 0⟩ → D ≠ tl))
    ⟨[], k1.new hD _, by rw [upd_ne pD, upd_same], upd_same, ⟨by simp, fun q hq => by simp at hq⟩, rfl, fun q hq => by simp at hq⟩ (fun i H2 hi hP => ?_) (fun H2 hP => ?_) (fun i v H2 H3 hi hP hy => ?_) (fun H2 hP => ?_)
  · obtain ⟨ps, k2, hp2, _⟩ := hP
    exact ⟨_, .str parts[i], SqL.of hp2, by rw [List.getElem?_map, List.getElem?_eq_getElem hi]; rfl⟩
  · obtain ⟨ps, k2, hp2, _⟩ := hP
    exact ⟨_, SqL.of hp2, by rw [List.length_map]; exact Nat.le_refl _⟩
  · obtain ⟨ps, k2, hp2, hD2, L2', e2, nt⟩ := hP
    obtain ⟨Tt, xv, rfl, hT, rfl, hx2⟩ := hy
    have hxv : xv = .str parts[i] := by
      have := hx2 _ (SqL.of hp2)
      rw [List.getElem?_map, List.getElem?_eq_getElem hi] at this
      injection this with this
      exact this.symm
    subst hxv
    have k3 := k2.new hT (.tup [.int (i : Nat), .str parts[i]])
    have kk := (Kp.refl [] H2).new hT (.tup [.int (i : Nat), .str parts[i]])
    refine ⟨Tt, _, rfl, SqT.of upd_same, rfl, _, _, rfl, _, _, rfl, rfl, rfl, ?_⟩
    have hm : parts[i] ∈ parts := List.getElem_mem hi
    have hb := sm1 _ hm
    refine ⟨_, rfl, _, rfl, _, _, rfl, rfl, fun a dx ha hdx hne => ⟨a, dx, parts[i], i + 1, rfl, upd_same, by omega, by omega, fun H4 tl k4 L4 => ⟨rfl, ?_⟩⟩⟩
    have k34 := Kp.made ha hdx k4
    have k04 := k3.trans k34
    have hD4 : H4 D = some (.lst (ps.map fun q => .ref q.1)) := k34.at0 (kk.at0 hD2)
    have L4' : LnsA C H H4 (ps ++ [(a, (toks parts[i], i + 1))]) := by
      have L3 := (L2'.kp0 kk).kp0 k34
      have ha0 := k3.fresh ha
      refine ⟨?_, fun q hq => ?_⟩
      · rw [List.map_append]
        refine nd_snoc L3.nd fun hm => ?_
        obtain ⟨q, hq, e⟩ := List.mem_map.mp hm
        obtain ⟨tl', h1, _⟩ := L2'.all q hq
        obtain ⟨_, _, i1, _⟩ := h1.ex
        have := kk.at0 i1
        rw [show q.1 = a from e, ha] at this
        cases this
      · rcases List.mem_append.mp hq with hq | hq
        · exact L3.all q hq
        · simp at hq
          subst hq
          exact ⟨tl, L4, ha0⟩
    have nt4 : ∀ q ∈ ps ++ [(a, (toks parts[i], i + 1))], ∀ tl, LnA C H4 q.1 tl q.2.1 q.2.2 ⟨0, 0, 0⟩ → D ≠ tl := by
      intro q hq tl' h'
      rcases List.mem_append.mp hq with hq | hq
      · obtain ⟨tl2, h1, _⟩ := L2'.all q hq
        have e := ((h1.kp0 kk).kp0 k34).tl_uniq h'
        rw [← e]
        exact nt q hq tl2 h1
      · simp at hq
        subst hq
        have e := L4.tl_uniq h'
        subst e
        obtain ⟨_, us4, _, j2, j3⟩ := L4.ex
        intro z
        rw [← z, hD4] at j2
        injection j2 with j2
        injection j2 with j2
        rw [← j2] at j3
        cases ps with
        | nil =>
          have := j3.len
          have := L4.ok.pos
          simp at *
          omega
        | cons q0 ps0 =>
          cases hT2 : toks parts[i] with
          | nil =>
            have := L4.ok.pos
            rw [hT2] at this
            simp at this
          | cons t0 tr =>
            rw [hT2] at j3
            cases j3 with
            | cons b1 b2 =>
              cases b1 with
              | tup c1 c2 =>
                obtain ⟨tl2, h1, _⟩ := L2'.all q0 (List.mem_cons_self ..)
                obtain ⟨_, _, i1, _⟩ := ((h1.kp0 kk).kp0 k34).ex
                rw [c1] at i1
                cases i1
    refine ⟨_, hD4, ?_, ps ++ [(a, (toks parts[i], i + 1))], k04.upN hD0 _, by rw [upd_ne pD]; exact k34.at0 (kk.at0 hp2), by rw [upd_same, List.map_append]; rfl, L4'.lst hD4 nt4, ?_, ?_⟩
    · have := congrArg List.length e2
      rw [List.length_map] at this
      have h5 : ∀ (l : List Str) (k : Nat), (linesOf k l).length = l.length := by
        intro l
        induction l with
        | nil => intro k; rfl
        | cons y r ih => intro k; show (linesOf (k + 1) r).length + 1 = _; rw [ih]; rfl
      rw [h5, List.length_take] at this
      rw [List.length_map, sizeLine_eq]
      omega
    · rw [List.map_append, e2, List.take_succ, List.getElem?_eq_getElem hi]
      show _ = linesOf 0 (parts.take i ++ [parts[i]])
      rw [linesOf_app, List.length_take, Nat.min_eq_left (Nat.le_of_lt hi), Nat.zero_add]
      rfl
    · intro q hq tl' h'
      obtain ⟨tl2, h1, _⟩ := L4'.all q hq
      obtain ⟨_, _, i1, _⟩ := h1.ex
      have e := (h1.other (Ne.symm (ne_of i1 hD4 (by simp))) (nt4 q hq tl2 h1) hD4 (us' := (ps.map fun q => V.ref q.1) ++ [.ref a])).tl_uniq h'
      rw [← e]
      exact nt4 q hq tl2 h1
  · obtain ⟨ps, k2, hp2, hD2, L2', e2, nt⟩ := hP
    rw [List.take_length] at e2
    -- the lines that hold something
    refine ⟨_, rfl, D, rfl, ⟨_, SqL.of hD2⟩, fun G hG => ?_⟩
    have hG0 := k2.fresh hG
    have DG : D ≠ G := ne_of_none hD2 hG
    refine lc_by ps.length (fun i H3 => Kp [] H H3 ∧ H3 D = some (.lst (ps.map fun q => .ref q.1)) ∧ LnsA C H H3 ps ∧ H3 G = some (.lst (((ps.take i).filter fun q => !decide (tk q.2.1 0 = "")).map fun q => .ref q.1)) ∧ (∀ q ∈ ps, ∀ tl, LnA C H3 q.1 tl q.2.1 q.2.2 ⟨0, 0, 0⟩ → G ≠ tl))
      ⟨k2.new hG _, by rw [upd_ne DG]; exact hD2, L2'.kp0 ((Kp.refl [] H2).new hG _), upd_same, ?_⟩ (fun i H3 hi hP => ?_) (fun H3 hP => ?_) (fun i v H3 H4 hi hP hy => ?_) (fun H3 hP => ?_)
    · intro q hq tl' h'
      obtain ⟨tl2, h1, _⟩ := L2'.all q hq
      have e := (h1.kp0 ((Kp.refl [] H2).new hG (.lst []))).tl_uniq h'
      rw [← e]
      exact (h1.ne hG).2
    · exact ⟨_, .ref ps[i].1, SqL.of hP.2.1, by rw [List.getElem?_map, List.getElem?_eq_getElem hi]; rfl⟩
    · exact ⟨_, SqL.of hP.2.1, by rw [List.length_map]; exact Nat.le_refl _⟩
    · obtain ⟨k3, hD3, L3, hG3, nt3⟩ := hP
      obtain ⟨rfl, hx2⟩ := hy
      have hv : v = .ref ps[i].1 := by
        have := hx2 _ (SqL.of hD3)
        rw [List.getElem?_map, List.getElem?_eq_getElem hi] at this
        injection this with this
        exact this.symm
      subst hv
      obtain ⟨tl, Li, _⟩ := L3.all ps[i] (List.getElem_mem hi)
      obtain ⟨dx, us, i1, _, _⟩ := Li.ex
      have et : ps.take (i + 1) = ps.take i ++ [ps[i]] := by
        rw [List.take_succ, List.getElem?_eq_getElem hi]
        rfl
      refine ⟨rfl, _, rfl, _, dx, _, rfl, i1, rfl, _, tl, _, _, _, rfl, Li, rfl, _, rfl, ?_⟩
      have hc : (!decide (V.str (tk ps[i].2.1 0) = V.str "")) = !decide (tk ps[i].2.1 0 = "") := by
        congr 1
        exact decide_eq_decide.mpr ⟨fun z => by injection z, fun z => by rw [z]⟩
      refine ite2 (fun h5 => ?_) (fun h5 => ?_)
      · have h5' : (!decide (tk ps[i].2.1 0 = "")) = true := by rw [← hc]; exact h5
        refine ⟨_, rfl, _, hG3, ?_, k3.upN hG0 _, by rw [upd_ne DG]; exact hD3, L3.lst hG3 nt3, ?_, ?_⟩
        · rw [List.length_map]
          have a1 := List.length_filter_le (fun q : LnP => !decide (tk q.2.1 0 = "")) (ps.take i)
          rw [List.length_take] at a1
          have a2 := congrArg List.length e2
          rw [List.length_map] at a2
          have h6 : ∀ (l : List Str) (k : Nat), (linesOf k l).length = l.length := by
            intro l
            induction l with
            | nil => intro k; rfl
            | cons y r ih => intro k; show (linesOf (k + 1) r).length + 1 = _; rw [ih]; rfl
          rw [h6] at a2
          rw [sizeLine_eq]
          omega
        · rw [upd_same, et, List.filter_append, List.map_append]
          congr 2
          simp [h5']
        · intro q hq tl' h'
          obtain ⟨tl2, h1, _⟩ := L3.all q hq
          obtain ⟨_, _, i1, _⟩ := h1.ex
          have e := (h1.other (Ne.symm (ne_of i1 hG3 (by simp))) (nt3 q hq tl2 h1) hG3 (us' := (((ps.take i).filter fun q => !decide (tk q.2.1 0 = "")).map fun q => V.ref q.1) ++ [.ref ps[i].1])).tl_uniq h'
          rw [← e]
          exact nt3 q hq tl2 h1
      · have h5' : (!decide (tk ps[i].2.1 0 = "")) = false := by
          rw [← hc]
          exact Bool.not_eq_true _ |>.mp h5
        refine ⟨k3, hD3, L3, ?_, nt3⟩
        rw [hG3, et, List.filter_append]
        congr 2
        simp [h5']
    · obtain ⟨k3, hD3, L3, hG3, nt3⟩ := hP
      rw [List.take_length] at hG3
      refine fin H3 G _ k3 hG0 hG3 ⟨?_, fun q hq => L3.all q (List.mem_filter.mp hq).1⟩ ?_ (fun q hq => nt3 q (List.mem_filter.mp hq).1)
      · exact List.Nodup.sublist (List.Sublist.map _ List.filter_sublist) L3.nd
      · unfold linesM fullL
        rw [hp, ← e2, List.filter_map]
        rfl
end T65
end
section
/-! W14: parse_book. -/
namespace T65
open PySem PySem.Spec PyProof.Rows L2
theorem LnA.kpO {C : Addr} {H H' : Hp} {a tl b : Addr} {T : TkL} {n : Nat} {s : PSt} (L : LnA C H a tl T n s) (k : Kp [b] H H') (h1 : a ≠ b) (h2 : tl ≠ b) : LnA C H' a tl T n s := by
  obtain ⟨dx, us, i1, i2, i3⟩ := L.ex
  exact ⟨⟨dx, us, k.at_ i1 (by simpa using h1), k.at_ i2 (by simpa using h2), i3.tu k.tu⟩, L.ok, L.num, L.lt⟩
theorem LnsA.mv {C : Addr} {H0 H H' : Hp} {p0 : LnP} {ps : List LnP} {C' dx : Addr} {fs : List (Str × V)} (L : LnsA C H0 H (p0 :: ps)) (k : Kp [p0.1] H H') : LnsA C H0 H' ps := by
  obtain ⟨n1, n2⟩ := List.nodup_cons.mp (show (p0.1 :: ps.map (·.1)).Nodup from L.nd)
  obtain ⟨tl0, L0, _⟩ := L.all p0 (List.mem_cons_self ..)
  obtain ⟨_, _, i0, _⟩ := L0.ex
  refine ⟨n2, fun q hq => ?_⟩
  obtain ⟨tl, L1, h0⟩ := L.all q (List.mem_cons_of_mem _ hq)
  obtain ⟨_, _, _, i2, _⟩ := L1.ex
  exact ⟨tl, L1.kpO k (fun z => n1 (by rw [← z]; exact List.mem_map_of_mem hq)) (ne_of i2 i0 (by simp)), h0⟩
theorem LnA.dic {C : Addr} {H : Hp} {a tl d : Addr} {T : TkL} {n : Nat} {s : PSt} {kvs kvs' : List (Key × V)} (L : LnA C H a tl T n s) (e : H d = some (.dK kvs)) : LnA C (upd H d (.dK kvs')) a tl T n s := by
  obtain ⟨dx, us, i1, i2, i3⟩ := L.ex
  exact ⟨⟨dx, us, by rw [upd_ne (ne_of i1 e (by simp))]; exact i1, by rw [upd_ne (ne_of i2 e (by simp))]; exact i2, i3.tu fun b xs z => by rw [upd_ne (ne_of z e (by simp))]; exact z⟩, L.ok, L.num, L.lt⟩
theorem LnsA.dic {C : Addr} {H0 H : Hp} {d : Addr} {ps : List LnP} {kvs kvs' : List (Key × V)} (L : LnsA C H0 H ps) (e : H d = some (.dK kvs)) : LnsA C H0 (upd H d (.dK kvs')) ps := ⟨L.nd, fun q hq => by
  obtain ⟨tl, h1, h2⟩ := L.all q hq
  exact ⟨tl, h1.dic e, h2⟩⟩
theorem Tu.dic {H : Hp} {d : Addr} {kvs kvs' : List (Key × V)} (e : H d = some (.dK kvs)) : Tu H (upd H d (.dK kvs')) := fun b xs z => by rw [upd_ne (ne_of z e (by simp))]; exact z
theorem KD.val {H : Hp} {kvs : List (Key × V)} {nds : List (Str × PyData)} (h : KD H kvs nds) (x : Str) : (valV kvs (.inr x)).isSome = decide (x ∈ nds.map (·.1)) := by
  induction h with
  | nil => rfl
  | @cons n v d kvs nds a b ih =>
    by_cases e : n = x
    · rw [valV_pos (p := ((Sum.inr n : Key), v)) (by rw [e])]
      simp [e]
    · rw [valV_neg (p := ((Sum.inr n : Key), v)) (fun z => e (Sum.inr.inj z)), ih]
      simp [Ne.symm e]
theorem KD.nd_len {H : Hp} {kvs : List (Key × V)} {nds : List (Str × PyData)} (h : KD H kvs nds) : kvs.length = nds.length := h.len
theorem ok_parse_book {P : Program} {w : World} {K : PySem.W.Frag} {mg : Str → Option Value} {base : Heap} {C S f : Addr} {fd : FuncData} (g : G65 K mg C S) (F : Fn K "parse_book" s_parse_book f fd) (gF : mg "parse_book" = some (.ref f))
    (c_lines_of : Cal P w K mg base CX0 4 "lines_of" p_lines_of (spLines C)) (c_is_name : Cal P w K mg base CX0 1 "is_name" p_is_name spName)
    (m_peek : MCal P w K mg base CX0 1 C "peek" p_Line_peek (spPeek C)) (m_take : MCal P w K mg base (L2.CX P w) 4 C "take" p_Line_take (spTake C S)) (m_read_rule : MCal P w K mg base (L2.CX P w) 22 C "read_rule" p_Line_read_rule (spRule C S 8)) (m_end : MCal P w K mg base (L2.CX P w) 5 C "end" p_Line_end (spEnd C S)) :
    Cal P w K mg base (L2.CX P w) 23 "parse_book" p_parse_book (spParse S rdBook) := by
  refine cal_of F gF sc_parse_book (fun vs H Q E h => by obtain ⟨x, rfl, _⟩ := h; rfl) (fun cdv A outer s H vs Q E hr h => ⟨_,
      (pss_cons (ps_set (i := 1) sc_parse_book.nd rfl (by first | exact Or.inl rfl | exact Or.inr rfl) pe_dnewK)
      (pss_cons (ps_for (passes_of rfl) rfl (pi_listK (K := K) rfl (pe_cal c_lines_of hr pass0 (pa_cons (pv 0) pa_nil))) (pg_name (i := 2) sc_parse_book.nd rfl (by first | exact Or.inl rfl | exact Or.inr rfl))
        (pss_cons (ps_set (i := 3) sc_parse_book.nd rfl (by first | exact Or.inl rfl | exact Or.inr rfl) (pe_mcal m_take g.cls (pv 2) hr tkp (pa_cons (pe_and (pe_cal c_is_name hr pass0 (pa_cons (pe_mcal0 m_peek g.cls (pv 2) hr pass0) pa_nil)) (pe_and (pe_cmp (pc_dnotin (hu_of hr) (pe_mcal0 m_peek g.cls (pv 2) hr pass0) (pv 1))) (pe_one (pe_cmpR op_lt (pe_callB call_lenD rfl g.len rfl (pa_cons (pv 1) pa_nil)) (pe_gc g.MOST_NAMES) (nomark _))))) pa_nil)))
        (pss_cons (ps_expr (pe_mcal m_take g.cls (pv 2) hr tkp (pa_cons (pe_cmpR op_eq (pe_mcal0 m_peek g.cls (pv 2) hr pass0) pe_str (nomark _)) pa_nil)))
        (pss_cons (ps_set (i := 4) sc_parse_book.nd rfl (by first | exact Or.inl rfl | exact Or.inr rfl) (pe_mcal m_read_rule g.cls (pv 2) hr tkp (pa_cons pe_int pa_nil)))
        (pss_cons (ps_expr (pe_mcal0 m_end g.cls (pv 2) hr tkp))
        (pss_one (ps_dput (hu_of hr) (pv 1) (pv 3) (pv 4) rfl)))))))
      (pss_one (ps_ret (pv 1))))), ?_⟩) (fun _ _ _ _ _ _ us hl => match us, hl with | [_], _ => rfl)
  obtain ⟨x, rfl, hx, q⟩ := h
  unfold rdBook at q
  generalize hR : bookM (linesM x) [] = R at q
  have qN : ∀ (n c : Nat), (.error (n, c) : Except (Nat × Nat) (List (Str × PyData))) = R → Err S [] H n c E := fun n c e => by
    rw [← e] at q
    exact q
  intro d hd
  refine ⟨_, rfl, x, rfl, hx, fun H2 l ps k2 hl hl2 L2' e2 nt => ⟨l, rfl, ⟨_, SqL.of hl2⟩, ?_⟩⟩
  have k02 := ((Kp.refl [] H).new hd (.dK [])).trans k2
  have hd2 : H2 d = some (.dK []) := k2.at0 upd_same
  have L2H : LnsA C H H2 ps := ⟨L2'.nd, fun q hq => by
    obtain ⟨tl, h1, h2⟩ := L2'.all q hq
    refine ⟨tl, h1, ?_⟩
    exact ((Kp.refl [] H).new hd (.dK [])).fresh h2⟩
  refine for_by ps.length (fun i σ H3 => ∃ (acc : List (Str × PyData)) (kvs : List (Key × V)) (e2 e3 e4 : Option V), σ = [some (.str x), some (.ref d), e2, e3, e4] ∧ Kp [] H H3 ∧ H3 d = some (.dK kvs) ∧ KD H3 kvs acc ∧ H3 l = some (.lst (ps.map fun q => .ref q.1)) ∧ LnsA C H H3 (ps.drop i) ∧ bookM ((ps.drop i).map (·.2)) acc = R ∧ acc.length ≤ 8)
    ⟨[], [], none, none, none, rfl, k02, hd2, .nil, hl2, L2H, by rw [List.drop_zero, e2]; exact hR, Nat.zero_le _⟩ (fun i σ H3 hi hP => ?_) (fun σ H3 hP => ?_) (fun i v σ H3 H4 hi hP hy => ?_) (fun σ H3 hP => ?_)
  · obtain ⟨acc, kvs, _, _, _, _, _, _, _, h5, _⟩ := hP
    exact ⟨_, .ref ps[i].1, SqL.of h5, by rw [List.getElem?_map, List.getElem?_eq_getElem hi]; rfl⟩
  · obtain ⟨acc, kvs, _, _, _, _, _, _, _, h5, _⟩ := hP
    exact ⟨_, SqL.of h5, by rw [List.length_map]; exact Nat.le_refl _⟩
  · obtain ⟨acc, kvs, e2', e3', e4', rfl, k3, hd3, kd3, hl3, L3, he, ha8⟩ := hP
    obtain ⟨rfl, hx2⟩ := hy
    have hv : v = .ref ps[i].1 := by
      have := hx2 _ (SqL.of hl3)
      rw [List.getElem?_map, List.getElem?_eq_getElem hi] at this
      injection this with this
      exact this.symm
    subst hv
    rw [List.drop_eq_getElem_cons hi] at L3 he
    obtain ⟨⟨a, T, n⟩, hp0⟩ : ∃ p0 : LnP, ps[i] = p0 := ⟨_, rfl⟩
    rw [hp0] at L3 he ⊢
    obtain ⟨tl, La, ha0⟩ := L3.all _ (List.mem_cons_self ..)
    replace La : LnA C H4 a tl T n ⟨0, 0, 0⟩ := La
    replace ha0 : H a = none := ha0
    replace he : bookM ((T, n) :: (ps.drop (i + 1)).map (·.2)) acc = R := he
    unfold bookM at he
    obtain ⟨dx, us, h1, _, _⟩ := La.ex
    have klen := kd3.len
    -- the name
    refine ⟨_, rfl, a, dx, _, rfl, h1, rfl, _, rfl, a, dx, _, rfl, h1, rfl, a, tl, T, n, _, rfl, La, tk T 0, rfl, La.ok.small _, fun H5 k5 => ⟨_, rfl, ?_⟩⟩
    have L5 := La.kp0 k5
    have k05 := k3.trans k5
    have hd5 := k5.at0 hd3
    have kd5 := kd3.tu k5.tu
    have step : ∀ (b : Bool) (Kc : VK), b = (nameM (tk T 0) && !decide (tk T 0 ∈ acc.map (·.1)) && decide (acc.length < 8)) → (b = true → ∀ H6, Kp [a] H5 H6 → LnA C H6 a tl T n ⟨1, 0, 0⟩ → Kc (.str (tk T 0)) H6) → spTake C S [.ref a, .bl b] H5 Kc E := by
      intro b Kc hb hK
      refine ⟨a, tl, b, T, n, ⟨0, 0, 0⟩, rfl, L5, fun hne hk H6 k6 L6 => hK hk H6 k6 L6, fun hz => ?_⟩
      have hb' : b = false := by
        rcases hz with z | z
        · have z' : tk T 0 = "" := z
          rw [hb, z', nameM_nil]
          rfl
        · exact z
      rw [← hb, hb'] at he
      exact Err.loc (qN n _ he) k05 ha0
    have main : ∀ (b : Bool), b = (nameM (tk T 0) && !decide (tk T 0 ∈ acc.map (·.1)) && decide (acc.length < 8)) → b = true → ∀ H6, Kp [a] H5 H6 → LnA C H6 a tl T n ⟨1, 0, 0⟩ → ∀ Z : L2.St → Hp → Prop,
        (∀ H8 v d8 s8, ruleM T 8 ⟨2, 0, 0⟩ = .ok (d8, s8) → tk T s8.p = "" → tk T 1 = "=" → Kp [] H H8 → LnA C H8 a tl T n s8 → TD H8 v d8 → Kp [a] H5 H8 → Z [some (.str x), some (.ref d), some (.ref a), some (.str (tk T 0)), some v] H8) →
        tSeq (tDrop (tMeth C "take" (spTake C S) [] E (tVar 2) (tCons (tOp rEq (tMeth C "peek" (spPeek C) [] E0 (tVar 2) tNil) (tC (.str "="))) tNil)))
          (tSeq (tAsg (tMeth C "read_rule" (spRule C S 8) [] E (tVar 2) (tCons (tC (.int 1)) tNil)) (gName 4)) (tDrop (tMeth C "end" (spEnd C S) [] E (tVar 2) tNil)))
          { nx := Z, rt := Q } [some (.str x), some (.ref d), some (.ref a), some (.str (tk T 0)), e4'] H6 := by
      rintro b rfl hb H6 k6 L6 Z hZ
      rw [if_pos hb] at he
      have k06 := k05.loc ha0 k6
      obtain ⟨dx6, us6, i6, _, _⟩ := L6.ex
      refine ⟨_, rfl, a, dx6, _, rfl, i6, rfl, _, rfl, a, dx6, _, rfl, i6, rfl, a, tl, T, n, _, rfl, L6, rfl, a, tl, _, T, n, ⟨1, 0, 0⟩, rfl, L6, fun hne hk H7 k7 L7 => ?_, fun hz => ?_⟩
      · have hk' : tk T 1 = "=" := by simpa using hk
        rw [if_pos hk'] at he
        have k07 := k06.loc ha0 k7
        obtain ⟨dx7, us7, i7, _, _⟩ := L7.ex
        refine ⟨_, rfl, a, dx7, _, rfl, i7, rfl, a, tl, T, n, ⟨2, 0, 0⟩, 1, rfl, L7, rfl, by decide, ?_⟩
        unfold wholeM at he
        cases er : ruleM T 8 ⟨2, 0, 0⟩ with
        | error c =>
          rw [er] at he
          exact Err.loc (qN n _ he) k07 ha0
        | ok z =>
          obtain ⟨d8, s8⟩ := z
          rw [er] at he
          intro H8 v k8 L8 t8
          have k08 := k07.loc ha0 k8
          obtain ⟨dx8, us8, i8, _, _⟩ := L8.ex
          refine ⟨_, rfl, a, dx8, _, rfl, i8, rfl, a, tl, T, n, s8, rfl, L8, fun hz => hZ H8 v d8 s8 er hz hk' k08 L8 t8 ((k6.trans k7).trans k8), fun hz => ?_⟩
          have he' : (match (if tk T s8.p = "" then (.ok d8 : Except Nat PyData) else .error (cl T s8.p)) with
            | .error c => (.error (n, c) : Except (Nat × Nat) (List (Str × PyData)))
            | .ok d => bookM ((ps.drop (i + 1)).map (·.2)) (acc ++ [(tk T 0, d)])) = R := he
          rw [if_neg hz] at he'
          exact Err.loc (qN n _ he') k08 ha0
      · have hz' : tk T 1 ≠ "=" := by
          rcases hz with z | z
          · have z' : tk T 1 = "" := z
            rw [z']
            decide
          · simpa using z
        rw [if_neg hz'] at he
        exact Err.loc (qN n _ he) k06 ha0
    have put : (nameM (tk T 0) && !decide (tk T 0 ∈ acc.map (·.1)) && decide (acc.length < 8)) = true → ∀ H8 v d8 s8, ruleM T 8 ⟨2, 0, 0⟩ = .ok (d8, s8) → tk T s8.p = "" → tk T 1 = "=" → Kp [] H H8 → LnA C H8 a tl T n s8 → TD H8 v d8 → Kp [a] H5 H8 →
        sDPut (tVar 1) (tVar 3) (tVar 4) { nx := fun σ H3 => ∃ (acc : List (Str × PyData)) (kvs : List (Key × V)) (e2 e3 e4 : Option V), σ = [some (.str x), some (.ref d), e2, e3, e4] ∧ Kp [] H H3 ∧ H3 d = some (.dK kvs) ∧ KD H3 kvs acc ∧ H3 l = some (.lst (ps.map fun q => .ref q.1)) ∧ LnsA C H H3 (ps.drop (i + 1)) ∧ bookM ((ps.drop (i + 1)).map (·.2)) acc = R ∧ acc.length ≤ 8, rt := Q }
          [some (.str x), some (.ref d), some (.ref a), some (.str (tk T 0)), some v] H8 := by
      intro hb H8 v d8 s8 er hz h1eq k08 L8 t8 k58
      rw [if_pos hb, if_pos h1eq] at he
      unfold wholeM at he
      rw [er] at he
      have he' : (match (if tk T s8.p = "" then (.ok d8 : Except Nat PyData) else .error (cl T s8.p)) with
            | .error c => (.error (n, c) : Except (Nat × Nat) (List (Str × PyData)))
            | .ok d => bookM ((ps.drop (i + 1)).map (·.2)) (acc ++ [(tk T 0, d)])) = R := he
      rw [if_pos hz] at he'
      simp only [Bool.and_eq_true, decide_eq_true_eq] at hb
      obtain ⟨⟨hb1, hb2⟩, hb3⟩ := hb
      have da : d ≠ a := ne_of hd3 h1 (by simp)
      have la : l ≠ a := ne_of hl3 h1 (by simp)
      have hd8 : H8 d = some (.dK kvs) := k58.at_ hd5 (by simpa using da)
      have hl8 : H8 l = some (.lst (ps.map fun q => .ref q.1)) := k58.at_ (k5.at0 hl3) (by simpa using la)
      have kd8 := kd5.tu k58.tu
      have L8' : LnsA C H H8 (ps.drop (i + 1)) := (L3.kp0 k5).mv (C' := 0) (dx := 0) (fs := []) k58
      have hnone : valV kvs (.inr (tk T 0)) = none := by
        have := kd8.val (tk T 0)
        rw [show decide (tk T 0 ∈ acc.map (·.1)) = false by simpa using hb2] at this
        cases e : valV kvs (.inr (tk T 0)) with
        | none => rfl
        | some _ => rw [e] at this; cases this
      refine ⟨_, rfl, _, rfl, _, rfl, d, _, rfl, DPut.k (k := .inr (tk T 0)) hd8 (by rw [sizeLine_eq]; omega), acc ++ [(tk T 0, d8)], kvs ++ [(.inr (tk T 0), v)], _, _, _, rfl, ?_, ?_, ?_, ?_, ?_, he', ?_⟩
      · exact k08.upN hd _
      · rw [upd_same, putK_new v hnone]
      · rw [putK_new v hnone]
        exact (kd8.tu (Tu.dic hd8)).app (.cons (t8.tu (Tu.dic hd8)) .nil)
      · rw [upd_ne (ne_of hl8 hd8 (by simp))]
        exact hl8
      · exact L8'.dic hd8
      · rw [List.length_append]
        show acc.length + 1 ≤ 8
        omega
    obtain ⟨dx5, us5, i5, _, _⟩ := L5.ex
    refine ite2 (fun h5 => ?_) (fun h5 => ?_)
    · have eg : (!(valV kvs (.inr (tk T 0))).isSome) = !decide (tk T 0 ∈ acc.map (·.1)) := by rw [kd5.val]
      refine ⟨_, rfl, a, dx5, _, rfl, i5, rfl, a, tl, T, n, _, rfl, L5, _, rfl, d, _, rfl, DGet.k (k := .inr (tk T 0)) hd5, _, rfl, ite2 (fun h6 => ?_) (fun h6 => ?_)⟩
      · rw [eg] at h6
        have el : decide (((kvs.length : Nat) : Int) < 8) = decide (acc.length < 8) := decide_eq_decide.mpr (by omega)
        refine ⟨_, rfl, d, kvs, rfl, hd5, _, _, rfl, rfl, ?_⟩
        dsimp only [tNil]
        rw [el]
        have eb : decide (acc.length < 8) = (nameM (tk T 0) && !decide (tk T 0 ∈ acc.map (·.1)) && decide (acc.length < 8)) := by
          rw [h5, h6]
          rfl
        exact step _ _ eb fun hb H6 k6 L6 => main _ eb hb H6 k6 L6 _ fun H8 v d8 s8 er hz h1e k8 L8 t8 k58 => put (by rw [← eb]; exact hb) H8 v d8 s8 er hz h1e k8 L8 t8 k58
      · rw [eg] at h6
        dsimp only [tNil]
        exact step false _ (by rw [h5, Bool.not_eq_true _ |>.mp h6]; rfl) fun z => by cases z
    · dsimp only [tNil]
      exact step false _ (by rw [Bool.not_eq_true _ |>.mp h5]; rfl) fun z => by cases z
  · obtain ⟨acc, kvs, e2', e3', e4', rfl, k3, hd3, kd3, hl3, L3, he, ha8⟩ := hP
    rw [List.drop_length] at he
    replace he : (.ok acc : Except (Nat × Nat) (List (Str × PyData))) = R := he
    rw [← he] at q
    exact ⟨_, rfl, q H3 _ k3 (.inr ⟨d, kvs, acc, rfl, hd3, kd3, rfl⟩)⟩
end T65
end
section
/-! W15: read_places, read_place. -/
namespace T65
open PySem PySem.Spec PyProof.Rows L2
def placesR (T : TkL) : Except Nat (List Nat) := if tk T 0 = "places" then placesM T T.length [] 1 else .error (cl T 0)
abbrev nsV (ns : List Nat) : List V := ns.map fun n => V.int (n : Nat)
def spPlaces (C S : Addr) : Sp := fun vs H Q E => ∃ (a tl : Addr) (T : TkL) (n : Nat), vs = [.ref a] ∧ LnA C H a tl T n ⟨0, 0, 0⟩ ∧ (match placesR T with
  | .ok ps => ∀ (H' : Hp) (t : Addr), Kp [a] H H' → H' t = some (.tup (nsV ps)) → Q (.ref t) H'
  | .error c => Err S [a] H n c E)
def spPlace (C S : Addr) : Sp := fun vs H Q E => ∃ (a tl t : Addr) (T : TkL) (n : Nat) (s : PSt) (ps : List Nat), vs = [.ref a, .ref t] ∧ LnA C H a tl T n s ∧ H t = some (.tup (nsV ps)) ∧
  (∀ i, placeM ps (tk T s.p) = some i → ∀ H', Kp [a] H H' → LnA C H' a tl T n ⟨s.p + 1, s.r, s.l⟩ → Q (.int (i : Nat)) H') ∧ (placeM ps (tk T s.p) = none → Err S [a] H n (cl T s.p) E)
theorem last_at {ns : List Nat} (h : ns ≠ []) : atI (nsV ns) (-1) = some (.int (ns.getD (ns.length - 1) 0 : Nat)) := by
  obtain ⟨l, x, rfl⟩ : ∃ l x, ns = l ++ [x] := ⟨ns.dropLast, ns.getLast h, (List.dropLast_concat_getLast h).symm⟩
  rw [show nsV (l ++ [x]) = nsV l ++ [.int (x : Nat)] by simp [nsV], atI_last]
  congr 2
  rw [List.length_append, List.length_singleton, Nat.add_sub_cancel, List.getD_eq_getElem?_getD, List.getElem?_append_right (Nat.le_refl _), Nat.sub_self]
  rfl
theorem in_ints (i : Nat) : ∀ ns : List Nat, inV (.int (i : Nat)) (nsV ns) = decide (i ∈ ns)
  | [] => rfl
  | y :: r => by
    have e := in_ints i r
    unfold inV at e ⊢
    rw [show nsV (y :: r) = V.int (y : Nat) :: nsV r from rfl, List.any_cons, e]
    by_cases h : y = i
    · subst h
      simp [eqV]
    · have h2 : ((y : Nat) : Int) ≠ ((i : Nat) : Int) := by omega
      simp [eqV, h2, Ne.symm h]
theorem non_ints : ∀ ns : List Nat, inV .non (nsV ns) = false
  | [] => rfl
  | y :: r => by
    have e := non_ints r
    unfold inV at e ⊢
    rw [show nsV (y :: r) = V.int (y : Nat) :: nsV r from rfl, List.any_cons, e]
    rfl
theorem flat_ints : ∀ ns : List Nat, (nsV ns).all flatV = true
  | [] => rfl
  | y :: r => by
    rw [show nsV (y :: r) = V.int (y : Nat) :: nsV r from rfl, List.all_cons, flat_ints r]
    rfl
theorem ok_read_place {P : Program} {w : World} {K : PySem.W.Frag} {mg : Str → Option Value} {base : Heap} {C S f : Addr} {fd : FuncData} (g : G65 K mg C S) (F : Fn K "read_place" s_read_place f fd) (gF : mg "read_place" = some (.ref f))
    (m_peek : MCal P w K mg base CX0 1 C "peek" p_Line_peek (spPeek C)) (m_take : MCal P w K mg base (L2.CX P w) 4 C "take" p_Line_take (spTake C S)) (c_figures_in : Cal P w K mg base CX0 1 "figures_in" p_figures_in spFigs) :
    Cal P w K mg base (L2.CX P w) 5 "read_place" p_read_place (spPlace C S) := by
  refine cal_of F gF sc_read_place (fun vs H Q E h => by obtain ⟨a, tl, t, T, n, s, ps, rfl, _⟩ := h; rfl) (fun cdv A outer s H vs Q E hr h => ⟨_,
      (pss_cons (ps_set (i := 2) sc_read_place.nd rfl (by first | exact Or.inl rfl | exact Or.inr rfl) (pe_cal c_figures_in hr pass0 (pa_cons (pe_mcal0 m_peek g.cls (pv 0) hr pass0) (pa_cons (pe_gc g.MAX_PLACE) pa_nil))))
      (pss_cons (ps_expr (pe_mcal m_take g.cls (pv 0) hr tkp (pa_cons (pe_cmpR op_in_seq (pv 2) (pv 1) (by with_unfolding_all rfl)) pa_nil)))
      (pss_one (ps_ret (pv 2))))), ?_⟩) (fun _ _ _ _ _ _ us hl => match us, hl with | [_, _], _ => rfl)
  obtain ⟨a, tl, t, T, n, s, ps, rfl, L, ht, qy, qn⟩ := h
  obtain ⟨dx, us, h1, _, _⟩ := L.ex
  refine ⟨_, rfl, a, dx, _, rfl, h1, rfl, a, tl, T, n, s, rfl, L, _, 1000000, rfl, L.ok.small _, .inr (.inr rfl), fun H1 k1 => ?_⟩
  have L1 := L.kp0 k1
  have ht1 := k1.at0 ht
  have h11 := k1.at0 h1
  unfold placeM at qy qn
  cases e : figsM (tk T s.p) 1000000 with
  | none =>
    rw [e] at qn
    refine ⟨_, rfl, a, dx, _, rfl, h11, rfl, _, rfl, _, rfl, t, _, rfl, .inr (SqT.of ht1), rfl, flat_ints ps, a, tl, _, T, n, s, rfl, L1, fun _ z => ?_, fun _ => Err.mono (qn rfl) k1.any⟩
    rw [show (if false = true then !inV (optI none) (nsV ps) else inV (optI none) (nsV ps)) = false from non_ints ps] at z
    cases z
  | some i =>
    rw [e] at qy qn
    refine ⟨_, rfl, a, dx, _, rfl, h11, rfl, _, rfl, _, rfl, t, _, rfl, .inr (SqT.of ht1), rfl, flat_ints ps, a, tl, _, T, n, s, rfl, L1, fun _ z H2 k2 L2' => ?_, fun z => ?_⟩
    · rw [show (if false = true then !inV (optI (some i)) (nsV ps) else inV (optI (some i)) (nsV ps)) = decide (i ∈ ps) from in_ints i ps] at z
      have hi := of_decide_eq_true z
      exact ⟨_, rfl, qy i (if_pos hi) H2 (k1.any.trans k2) L2'⟩
    · rw [show (if false = true then !inV (optI (some i)) (nsV ps) else inV (optI (some i)) (nsV ps)) = decide (i ∈ ps) from in_ints i ps] at z
      rcases z with z | z
      · rw [z] at e
        cases e
      · exact Err.mono (qn (if_neg (of_decide_eq_false z))) k1.any
theorem ok_read_places {P : Program} {w : World} {K : PySem.W.Frag} {mg : Str → Option Value} {base : Heap} {C S f : Addr} {fd : FuncData} (g : G65 K mg C S) (F : Fn K "read_places" s_read_places f fd) (gF : mg "read_places" = some (.ref f))
    (m_peek : MCal P w K mg base CX0 1 C "peek" p_Line_peek (spPeek C)) (m_take : MCal P w K mg base (L2.CX P w) 4 C "take" p_Line_take (spTake C S)) (c_figures_in : Cal P w K mg base CX0 1 "figures_in" p_figures_in spFigs) :
    Cal P w K mg base (L2.CX P w) 5 "read_places" p_read_places (spPlaces C S) := by
  refine cal_of F gF sc_read_places (fun vs H Q E h => by obtain ⟨a, tl, T, n, rfl, _⟩ := h; rfl) (fun cdv A outer s H vs Q E hr h => ⟨_,
      (pss_cons (ps_expr (pe_mcal m_take g.cls (pv 0) hr tkp (pa_cons (pe_cmpR op_eq (pe_mcal0 m_peek g.cls (pv 0) hr pass0) pe_str (nomark _)) pa_nil)))
      (pss_cons (ps_set (i := 1) sc_read_places.nd rfl (by first | exact Or.inl rfl | exact Or.inr rfl) (pe_lst pa_nil))
      (pss_cons (ps_while (passes_of rfl) (pt_cmpR op_ne (pe_mcal0 m_peek g.cls (pv 0) hr pass0) pe_str (nomark _))
        (pss_cons (ps_set (i := 2) sc_read_places.nd rfl (by first | exact Or.inl rfl | exact Or.inr rfl) (pe_cal c_figures_in hr pass0 (pa_cons (pe_mcal0 m_peek g.cls (pv 0) hr pass0) (pa_cons (pe_gc g.MAX_PLACE) pa_nil))))
        (pss_cons (ps_set (i := 3) sc_read_places.nd rfl (by first | exact Or.inl rfl | exact Or.inr rfl) (pe_and (pe_cmpR op_notN (pv 2) pe_non (nomark _)) (pe_one (pe_or (pe_cmpR (op_eqNil (hu64 hr)) (pv 1) (pe_lst pa_nil) (nomark _)) (pe_one (pe_cmpR op_lt (pe_ix (r := rIxL K) ix_list (pv 1) (pe_un un_neg pe_int) (fun _ _ => rfl)) (pv 2) (nomark _)))))))
        (pss_cons (ps_expr (pe_mcal m_take g.cls (pv 0) hr tkp (pa_cons (pe_and (pv 3) (pe_one (pe_cmpR op_lt (pe_callB call_len rfl g.len rfl (pa_cons (pv 1) pa_nil)) (pe_gc g.MAX_PLACES) (nomark _)))) pa_nil)))
        (pss_one (ps_expr (pe_bm PySem.F.plainAttrs_list PySem.F.slot_list_append PySem.F.type_list_append mt_append (pv 1) (pa_cons (pv 2) pa_nil))))))))
      (pss_one (ps_ret (pe_callTy call_tuple_of rfl g.tuple rfl (pa_cons (pv 1) pa_nil))))))), ?_⟩) (fun _ _ _ _ _ _ us hl => match us, hl with | [_], _ => rfl)
  obtain ⟨a, tl, T, n, rfl, L, q⟩ := h
  unfold placesR at q
  obtain ⟨dx, us, h1, _, _⟩ := L.ex
  refine ⟨_, rfl, a, dx, _, rfl, h1, rfl, _, rfl, a, dx, _, rfl, h1, rfl, a, tl, T, n, _, rfl, L, rfl, a, tl, _, T, n, ⟨0, 0, 0⟩, rfl, L, fun hne hk H1 k1 L1 => ?_, fun hz => ?_⟩
  · have hk' : tk T 0 = "places" := by simpa using hk
    rw [if_pos hk'] at q
    generalize hR : placesM T T.length [] 1 = R at q
    have qN : ∀ (c : Nat), (.error c : Except Nat (List Nat)) = R → Err S [a] H n c E := fun c e => by
      rw [← e] at q
      exact q
    refine ⟨Nat.zero_le _, fun qf hq => ?_⟩
    have hq0 := k1.fresh hq
    obtain ⟨qa, ql⟩ := L1.ne hq
    refine ⟨fun m σ H2 => ∃ (s1 : PSt) (ls : List Nat) (e2 e3 : Option V), σ = [some (.ref a), some (.ref qf), e2, e3] ∧ Kp [a] H H2 ∧ LnA C H2 a tl T n s1 ∧ H2 qf = some (.lst (nsV ls)) ∧ ls.length ≤ s1.p ∧ T.length ≤ s1.p + m ∧ placesM T m ls s1.p = R,
      ⟨T.length, ⟨1, 0, 0⟩, [], none, none, rfl, k1.new hq _, L1.kp0 ((Kp.refl [] H1).new hq _), upd_same, Nat.zero_le _, by show _ ≤ 1 + _; omega, hR⟩, ?_⟩
    rintro m σ H2 ⟨s1, ls, e2, e3, rfl, k2, L2', hf, hle, hfu, he⟩
    obtain ⟨dx2, us2, i1, _, _⟩ := L2'.ex
    have lt1 := L2'.lt
    obtain ⟨m', rfl⟩ : ∃ m', m = m' + 1 := ⟨m - 1, by omega⟩
    unfold placesM at he
    refine ⟨_, rfl, a, dx2, _, rfl, i1, rfl, a, tl, T, n, s1, rfl, L2', rfl, _, rfl, ite2 (fun h4 => ?_) (fun h4 => ?_)⟩
    · have h4' : tk T s1.p ≠ "" := by simpa using h4
      rw [if_neg h4'] at he
      refine ⟨_, fun σ' H' z => z, ?_⟩
      refine ⟨_, rfl, a, dx2, _, rfl, i1, rfl, a, tl, T, n, s1, rfl, L2', _, 1000000, rfl, L2'.ok.small _, .inr (.inr rfl), fun H3 k3 => ?_⟩
      have L3 := L2'.kp0 k3
      have hf3 := k3.at0 hf
      have k03 := k2.trans k3.any
      cases e : figsM (tk T s1.p) 1000000 with
      | none =>
        rw [e] at he
        have he' : (.error (cl T s1.p) : Except Nat (List Nat)) = R := he
        refine ⟨_, rfl, rfl, _, rfl, ?_⟩
        refine ⟨_, rfl, a, dx2, _, rfl, k3.at0 i1, rfl, _, rfl, _, rfl, a, tl, false, T, n, s1, rfl, L3, (fun _ z => by cases z), fun _ => Err.mono (qN _ he') k03⟩
      | some i =>
        rw [e] at he
        replace he : (if (ls = [] ∨ ls.getD (ls.length - 1) 0 < i) ∧ ls.length < 64 then placesM T m' (ls ++ [i]) (s1.p + 1) else .error (cl T s1.p)) = R := he
        refine ⟨_, rfl, rfl, _, rfl, ?_⟩
        refine ⟨_, rfl, Nat.zero_le _, fun p hp => ⟨qf, p, nsV ls, rfl, rfl, ?_, SqL.of upd_same, _, rfl, ?_⟩⟩
        · exact SqL.of (by rw [upd_ne (ne_of_none hf3 hp)]; exact hf3)
        · have k4 := (Kp.refl [] H3).new hp (.lst [])
          have L4 := L3.kp0 k4
          have hf4 := k4.at0 hf3
          have k04 := k03.trans k4.any
          obtain ⟨dx4, us4, j1, _, _⟩ := L4.ex
          have step : ∀ (b : Bool) (Kc : VK), b = decide ((ls = [] ∨ ls.getD (ls.length - 1) 0 < i) ∧ ls.length < 64) → (∀ H5, Kp [a] (upd H3 p (.lst [])) H5 → LnA C H5 a tl T n ⟨s1.p + 1, s1.r, s1.l⟩ → b = true → Kc (.str (tk T s1.p)) H5) → spTake C S [.ref a, .bl b] (upd H3 p (.lst [])) Kc E := by
            intro b Kc hb hK
            refine ⟨a, tl, b, T, n, s1, rfl, L4, fun hne hk H5 k5 L5 => hK H5 k5 L5 hk, fun hz => ?_⟩
            have hb' : b = false := by
              rcases hz with z | z
              · exact absurd z h4'
              · exact z
            rw [hb'] at hb
            rw [if_neg (of_decide_eq_false hb.symm)] at he
            exact Err.mono (qN _ he) k04
          have put : ∀ (b : Bool) (bn : Bool), b = decide ((ls = [] ∨ ls.getD (ls.length - 1) 0 < i) ∧ ls.length < 64) → b = true → ∀ H5, Kp [a] (upd H3 p (.lst [])) H5 → LnA C H5 a tl T n ⟨s1.p + 1, s1.r, s1.l⟩ →
              tDrop (tBM K "list" rAppend (tVar 1) (tCons (tVar 2) tNil)) { nx := fun σ' H' => ∃ m'', m'' < m' + 1 ∧ ∃ (s1 : PSt) (ls : List Nat) (e2 e3 : Option V), σ' = [some (.ref a), some (.ref qf), e2, e3] ∧ Kp [a] H H' ∧ LnA C H' a tl T n s1 ∧ H' qf = some (.lst (nsV ls)) ∧ ls.length ≤ s1.p ∧ T.length ≤ s1.p + m'' ∧ placesM T m'' ls s1.p = R, rt := Q }
                [some (.ref a), some (.ref qf), some (.int (i : Nat)), some (.bl bn)] H5 := by
            intro b bn hb hbt H5 k5 L5
            rw [hbt] at hb
            rw [if_pos (of_decide_eq_true hb.symm)] at he
            have hf5 := k5.at_ hf4 (by simpa using qa)
            refine ⟨_, rfl, .inl ⟨rfl, _, SqL.of hf5⟩, _, rfl, qf, _, _, rfl, rfl, hf5, ?_, m', Nat.lt_succ_self _, ⟨s1.p + 1, s1.r, s1.l⟩, ls ++ [i], _, _, rfl, (k04.trans k5).upN hq0 _, L5.other qa ql hf5, ?_, ?_, ?_, he⟩
            · rw [List.length_map, sizeLine_eq]
              have := L2'.ok.len
              omega
            · rw [upd_same]
              simp [nsV]
            · rw [List.length_append]
              show ls.length + 1 ≤ s1.p + 1
              omega
            · show T.length ≤ s1.p + 1 + m'
              omega
          have lenTest : ∀ (bn : Bool), bn = decide (ls = [] ∨ ls.getD (ls.length - 1) 0 < i) → 
              (tDrop (tMeth C "take" (spTake C S) [] E (tVar 0) (tCons (tAndV (tVar 3) (tOp (rI0 fun i j => .bl (decide (i < j))) (tCB (fun xs H Q => ∃ x n, xs = [x] ∧ LenV K x H n ∧ Q (.int n) H) (tCons (tVar 1) tNil)) (tC (.int 64)))) tNil)))
                { nx := tDrop (tBM K "list" rAppend (tVar 1) (tCons (tVar 2) tNil)) { nx := fun σ' H' => ∃ m'', m'' < m' + 1 ∧ ∃ (s1 : PSt) (ls : List Nat) (e2 e3 : Option V), σ' = [some (.ref a), some (.ref qf), e2, e3] ∧ Kp [a] H H' ∧ LnA C H' a tl T n s1 ∧ H' qf = some (.lst (nsV ls)) ∧ ls.length ≤ s1.p ∧ T.length ≤ s1.p + m'' ∧ placesM T m'' ls s1.p = R, rt := Q }, rt := Q }
                [some (.ref a), some (.ref qf), some (.int (i : Nat)), some (.bl bn)] (upd H3 p (.lst [])) := by
            intro bn hbn
            refine ⟨_, rfl, a, dx4, _, rfl, j1, rfl, _, rfl, _, rfl, ite2 (fun h5 => ?_) (fun h5 => ?_)⟩
            · refine ⟨_, rfl, _, _, rfl, .inl ⟨_, SqL.of hf4, rfl⟩, _, _, rfl, rfl, ?_⟩
              dsimp only [tNil]
              have eb : decide ((((nsV ls).length : Nat) : Int) < 64) = decide ((ls = [] ∨ ls.getD (ls.length - 1) 0 < i) ∧ ls.length < 64) := by
                rw [h5] at hbn
                have h6 := of_decide_eq_true hbn.symm
                rw [List.length_map]
                exact decide_eq_decide.mpr ⟨fun z => ⟨h6, by omega⟩, fun z => by omega⟩
              exact step _ _ eb fun H5 k5 L5 hb => put _ bn eb hb H5 k5 L5
            · dsimp only [tNil]
              refine step false _ ?_ fun H5 k5 L5 hb => by cases hb
              rw [Bool.not_eq_true _ |>.mp h5] at hbn
              have h6 := of_decide_eq_false hbn.symm
              exact (decide_eq_false fun z => h6 z.1).symm
          refine ite2 (fun h5 => ?_) (fun h5 => ?_)
          · have hl : ls = [] := by
              cases ls with
              | nil => rfl
              | cons _ _ => cases h5
            exact lenTest true (decide_eq_true (.inl hl)).symm
          · have hl : ls ≠ [] := fun z => h5 (by rw [z]; rfl)
            refine ⟨_, rfl, _, rfl, qf, _, -1, _, rfl, rfl, SqL.of hf4, last_at hl, _, rfl, _, _, rfl, rfl, ?_⟩
            refine lenTest _ ?_
            refine decide_eq_decide.mpr ⟨fun z => .inr (by omega), fun z => ?_⟩
            rcases z with z | z
            · exact absurd z hl
            · omega
    · have h4' : tk T s1.p = "" := by simpa using h4
      rw [if_pos h4'] at he
      rw [← he] at q
      refine ⟨_, rfl, qf, _, rfl, .inl ⟨SqL.of hf, fun l hl => ?_⟩⟩
      exact q _ _ (k2.new hl _) upd_same
  · have hz' : tk T 0 ≠ "places" := by
      rcases hz with z | z
      · have z' : tk T 0 = "" := z
        rw [z']
        decide
      · simpa using z
    rw [if_neg hz'] at q
    exact q
end T65
end
section
/-! W16: parse_net. -/
namespace T65
open PySem PySem.Spec PyProof.Rows L2
def RoadD (d : PyData) : Prop := ∃ (x : Str) (a b c : Nat), d = .tuple [.str x, .int (a : Nat), .int (b : Nat), .int (c : Nat)]
theorem road_alike {ds : List PyData} (h : ∀ d ∈ ds, RoadD d) : PySem.W.AllAlike ds := fun d hd d' hd' => by
  obtain ⟨x, a, b, c, rfl⟩ := h d hd
  obtain ⟨x', a', b', c', rfl⟩ := h d' hd'
  rfl
theorem road_sortable {ds : List PyData} (h : ∀ d ∈ ds, RoadD d) : PySem.W.Sortable ds := .inl fun d hd => by
  obtain ⟨x, a, b, c, rfl⟩ := h d hd
  exact ⟨_, _, rfl⟩
theorem road_depth {ds : List PyData} (h : ∀ d ∈ ds, RoadD d) : ∀ d ∈ ds, d.depth ≤ 60 := fun d hd => by
  obtain ⟨x, a, b, c, rfl⟩ := h d hd
  exact Nat.le_of_ble_eq_true rfl
theorem roadM_road {ps : List Nat} {T : TkL} {d : PyData} (h : roadM ps T = .ok d) : RoadD d := by
  unfold roadM at h
  split at h
  · split at h
    · cases h
    · split at h
      · cases h
      · split at h
        · cases h
        · split at h
          · cases h
            exact ⟨_, _, _, _, rfl⟩
          · cases h
  · cases h
theorem netM_eq {x : Str} {T : TkL} {n : Nat} {r : Lns} (e : linesM x = (T, n) :: r) : netM x = match placesR T with
    | .error c => .error (n, c)
    | .ok ps => match roadsM ps r [] with
      | .error e => .error e
      | .ok ds => .ok (.tuple [tupI ps, .tuple (sortD ds)]) := by
  unfold netM placesR
  rw [e]
  show (if tk T 0 = "places" then _ else _) = _
  split
  · rfl
  · rfl
theorem cut1 (xs : List V) : cutV xs (some 1) none = xs.drop 1 := by
  unfold cutV
  rw [HT.sIx_none]
  rw [show (some (1 : Int)) = some (((1 : Nat) : Int)) from rfl, HT.sIx_nat]
  cases xs with
  | nil => rfl
  | cons a r =>
    rw [List.length_cons, Nat.min_eq_left (by omega)]
    exact List.take_of_length_le (by simp)
theorem LnsA.other {C : Addr} {H0 H : Hp} {ps : List LnP} {D : Addr} {xs ys : List V} (L : LnsA C H0 H ps) (e : H D = some (.lst xs)) (hD : ∀ q ∈ ps, ∀ tl, LnA C H q.1 tl q.2.1 q.2.2 ⟨0, 0, 0⟩ → D ≠ tl) :
    ∀ q ∈ ps, ∀ tl, LnA C (upd H D (.lst ys)) q.1 tl q.2.1 q.2.2 ⟨0, 0, 0⟩ → D ≠ tl := fun q hq tl h' => by
  obtain ⟨tl2, h1, _⟩ := L.all q hq
  obtain ⟨_, _, i1, _⟩ := h1.ex
  have e2 := (h1.other (Ne.symm (ne_of i1 e (by simp))) (hD q hq tl2 h1) e (us' := ys)).tl_uniq h'
  rw [← e2]
  exact hD q hq tl2 h1
theorem LnsA.nt_kp {C : Addr} {H0 H H' : Hp} {ps : List LnP} {D : Addr} (L : LnsA C H0 H ps) (L' : LnsA C H0 H' ps) (hu : ∀ q ∈ ps, ∀ tl, LnA C H q.1 tl q.2.1 q.2.2 ⟨0, 0, 0⟩ → LnA C H' q.1 tl q.2.1 q.2.2 ⟨0, 0, 0⟩) (hD : ∀ q ∈ ps, ∀ tl, LnA C H q.1 tl q.2.1 q.2.2 ⟨0, 0, 0⟩ → D ≠ tl) :
    ∀ q ∈ ps, ∀ tl, LnA C H' q.1 tl q.2.1 q.2.2 ⟨0, 0, 0⟩ → D ≠ tl := fun q hq tl h' => by
  obtain ⟨tl2, h1, _⟩ := L.all q hq
  have e := (hu q hq tl2 h1).tl_uniq h'
  rw [← e]
  exact hD q hq tl2 h1
theorem LnsA.mvU {C : Addr} {H0 H H' : Hp} {p0 : LnP} {ps : List LnP} (L : LnsA C H0 H (p0 :: ps)) (k : Kp [p0.1] H H') : ∀ q ∈ ps, ∀ tl, LnA C H q.1 tl q.2.1 q.2.2 ⟨0, 0, 0⟩ → LnA C H' q.1 tl q.2.1 q.2.2 ⟨0, 0, 0⟩ := by
  obtain ⟨n1, n2⟩ := List.nodup_cons.mp (show (p0.1 :: ps.map (·.1)).Nodup from L.nd)
  obtain ⟨tl0, L0, _⟩ := L.all p0 (List.mem_cons_self ..)
  obtain ⟨_, _, i0, _⟩ := L0.ex
  intro q hq tl L1
  obtain ⟨_, _, _, i2, _⟩ := L1.ex
  exact L1.kpO k (fun z => n1 (by rw [← z]; exact List.mem_map_of_mem hq)) (ne_of i2 i0 (by simp))
theorem ok_parse_net {P : Program} {w : World} {K : PySem.W.Frag} {mg : Str → Option Value} {base : Heap} {C S f : Addr} {fd : FuncData} (g : G65 K mg C S) (sp : SpK P w K mg base S) (F : Fn K "parse_net" s_parse_net f fd) (gF : mg "parse_net" = some (.ref f))
    (c_lines_of : Cal P w K mg base CX0 4 "lines_of" p_lines_of (spLines C)) (c_read_places : Cal P w K mg base (L2.CX P w) 5 "read_places" p_read_places (spPlaces C S)) (c_read_place : Cal P w K mg base (L2.CX P w) 5 "read_place" p_read_place (spPlace C S)) (c_is_letter : Cal P w K mg base CX0 2 "is_letter" p_is_letter spLetter)
    (m_peek : MCal P w K mg base CX0 1 C "peek" p_Line_peek (spPeek C)) (m_take : MCal P w K mg base (L2.CX P w) 4 C "take" p_Line_take (spTake C S)) (m_integer : MCal P w K mg base (L2.CX P w) 5 C "integer" p_Line_integer (spInteger C S)) (m_end : MCal P w K mg base (L2.CX P w) 5 C "end" p_Line_end (spEnd C S)) :
    Cal P w K mg base (L2.CX P w) 6 "parse_net" p_parse_net (spParse S netM) := by
  refine cal_of F gF sc_parse_net (fun vs H Q E h => by obtain ⟨x, rfl, _⟩ := h; rfl) (fun cdv A outer s H vs Q E hr h => ⟨_,
      (pss_cons (ps_set (i := 1) sc_parse_net.nd rfl (by first | exact Or.inl rfl | exact Or.inr rfl) (pe_cal c_lines_of hr pass0 (pa_cons (pv 0) pa_nil)))
      (pss_cons (ps_if (pt_cmpR (op_eqNil (hu64 hr)) (pv 1) (pe_lst pa_nil) (nomark _))
        (pss_one (ps_sp sp hr rfl (takes_of rfl rfl rfl rfl) g.SyntaxProblem (pa_cons (pe_op op_add (pe_callB call_len rfl g.len rfl (pa_cons (pe_split (pv 0) pe_str) pa_nil)) pe_int) (pa_cons pe_int pa_nil))))
        pss_nil)
      (pss_cons (ps_par (i := 2) (j := 3) rfl sc_parse_net.nd rfl rfl (by decide) rfl rfl (pa_cons (pe_cal c_read_places hr tkp (pa_cons (pe_ix (r := rIxL K) ix_list (pv 1) pe_int (fun _ _ => rfl)) pa_nil)) (pa_cons (pe_lst pa_nil) pa_nil)) rfl)
      (pss_cons (ps_for (passes_of rfl) rfl (pi_listK (K := K) rfl (pe_slice (r := rSlL K) sl_list (pv 1) (po_some pe_int) po_none)) (pg_name (i := 4) sc_parse_net.nd rfl (by first | exact Or.inl rfl | exact Or.inr rfl))
        (pss_cons (ps_expr (pe_mcal m_take g.cls (pv 4) hr tkp (pa_cons (pe_and (pe_cmpR op_eq (pe_mcal0 m_peek g.cls (pv 4) hr pass0) pe_str (nomark _)) (pe_one (pe_cmpR op_lt (pe_callB call_len rfl g.len rfl (pa_cons (pv 3) pa_nil)) (pe_gc g.MAX_ROADS) (nomark _)))) pa_nil)))
        (pss_cons (ps_set (i := 5) sc_parse_net.nd rfl (by first | exact Or.inl rfl | exact Or.inr rfl) (pe_mcal m_take g.cls (pv 4) hr tkp (pa_cons (pe_cal c_is_letter hr pass0 (pa_cons (pe_mcal0 m_peek g.cls (pv 4) hr pass0) pa_nil)) pa_nil)))
        (pss_cons (ps_par (i := 6) (j := 7) rfl sc_parse_net.nd rfl rfl (by decide) rfl rfl (pa_cons (pe_cal c_read_place hr tkp (pa_cons (pv 4) (pa_cons (pv 2) pa_nil))) (pa_cons (pe_cal c_read_place hr tkp (pa_cons (pv 4) (pa_cons (pv 2) pa_nil))) pa_nil)) rfl)
        (pss_cons (ps_expr (pe_bm PySem.F.plainAttrs_list PySem.F.slot_list_append PySem.F.type_list_append mt_append (pv 3) (pa_cons (pe_tup (pa_cons (pv 5) (pa_cons (pv 6) (pa_cons (pv 7) (pa_cons (pe_mcal m_integer g.cls (pv 4) hr tkp (pa_cons (pe_gc g.MAX_COST) pa_nil)) pa_nil))))) pa_nil)))
        (pss_one (ps_expr (pe_mcal0 m_end g.cls (pv 4) hr tkp))))))))
      (pss_one (ps_ret (pe_tup (pa_cons (pv 2) (pa_cons (pe_callTy call_tuple_of rfl g.tuple rfl (pa_cons (pe_callB (cr_sortedT (hu64 hr)) rfl g.sorted rfl (pa_cons (pv 3) pa_nil)) pa_nil)) pa_nil))))))))), ?_⟩) (fun _ _ _ _ _ _ us hl => match us, hl with | [_], _ => rfl)
  obtain ⟨x, rfl, hx, q⟩ := h
  have hs2 : x.length + 2 ≤ sizeLine := by rw [sizeLine_eq]; omega
  obtain ⟨sm1, sm2⟩ := split_small x
  refine ⟨_, rfl, x, rfl, hx, fun H1 l ps k1 hl hl1 L1 e1 nt => ?_⟩
  refine ⟨_, rfl, Nat.zero_le _, fun p hp => ⟨l, p, ps.map fun q => .ref q.1, rfl, rfl, ?_, SqL.of upd_same, _, rfl, ?_⟩⟩
  · exact SqL.of (by rw [upd_ne (ne_of_none hl1 hp)]; exact hl1)
  have kk := (Kp.refl [] H1).new hp (.lst [])
  have k2 := k1.trans kk
  have L2' := L1.kp0 kk
  have hl2 := kk.at0 hl1
  cases ps with
  | nil =>
    refine ⟨_, rfl, ⟨x, rfl⟩, _, _, rfl, rfl, by decide +kernel, hs2, fun p2 hp2 => ⟨_, _, rfl, .inl ⟨_, SqL.of upd_same, rfl⟩, _, _, rfl, rfl, by show 2 ≤ 1000; decide, fun a ha => ?_⟩⟩
    refine rd_sp (n := ((Txt.split x "\n").map V.str).length + 1) (c := 1) (by rw [List.length_map]; omega) (by decide) (fun H' d k e => ?_) a ha
    have en : netM x = .error ((Txt.split x "\n").length + 1, 1) := by
      unfold netM
      rw [← e1]
      rfl
    rw [en] at q
    rw [List.length_map] at e
    exact q H' d ((k2.new hp2 _).trans k) e
  | cons p0 rest =>
    obtain ⟨a0, T0, n0⟩ := p0
    rw [netM_eq (T := T0) (n := n0) (r := rest.map (·.2)) (by rw [← e1]; rfl)] at q
    obtain ⟨tl0, L0, ha00⟩ := L2'.all _ (List.mem_cons_self ..)
    replace L0 : LnA C (upd H1 p (.lst [])) a0 tl0 T0 n0 ⟨0, 0, 0⟩ := L0
    replace ha00 : H a0 = none := ha00
    refine ⟨_, rfl, l, _, 0, .ref a0, rfl, rfl, SqL.of hl2, atI_nat (j := 0) rfl, a0, tl0, T0, n0, rfl, L0, ?_⟩
    cases er : placesR T0 with
    | error c =>
      rw [er] at q
      exact Err.loc q k2 ha00
    | ok pl =>
      rw [er] at q
      intro H3 t k3 ht3
      have k03 := k2.loc ha00 k3
      have L3 : LnsA C H H3 rest := L2'.mv (C' := 0) (dx := 0) (fs := []) k3
      obtain ⟨_, _, i0, _⟩ := L0.ex
      have hl3 := k3.at_ hl2 (by simpa using ne_of hl2 i0 (by simp))
      refine ⟨Nat.zero_le _, fun rq hrq => ⟨_, _, rfl, ?_⟩⟩
      have hrq0 := k03.fresh hrq
      have k4 := (Kp.refl [] H3).new hrq (.lst [])
      have nt4 : ∀ q ∈ rest, ∀ tl, LnA C (upd H3 rq (.lst [])) q.1 tl q.2.1 q.2.2 ⟨0, 0, 0⟩ → rq ≠ tl := fun q hq tl h' => by
        obtain ⟨tl2, h1, _⟩ := L3.all q hq
        have e := (h1.kp0 k4).tl_uniq h'
        rw [← e]
        exact (h1.ne hrq).2
      -- lines[1:]
      refine ⟨_, rfl, _, rfl, l, _, rfl, SqL.of (k4.at0 hl3), fun l2 hl2' => ⟨l2, rfl, ⟨_, SqL.of upd_same⟩, ?_⟩⟩
      rw [cut1]
      have k5 := (Kp.refl [] _).new hl2' (.lst (List.drop 1 (((a0, T0, n0) :: rest).map fun q : LnP => V.ref q.1)))
      have el2 : List.drop 1 (((a0, T0, n0) :: rest).map fun q : LnP => V.ref q.1) = rest.map fun q => .ref q.1 := rfl
      have rql2 : rq ≠ l2 := ne_of_none upd_same hl2'
      have q' : ∀ R, roadsM pl (rest.map (·.2)) [] = R → Rds S (match R with
          | .error e => .error e
          | .ok ds => .ok (.tuple [tupI pl, .tuple (sortD ds)])) H Q E := fun R e => by
        rw [← e]
        exact q
      generalize hR : roadsM pl (rest.map (·.2)) [] = R
      replace q' := q' R hR
      have qN : ∀ (n c : Nat), (.error (n, c) : Except (Nat × Nat) (List PyData)) = R → Err S [] H n c E := fun n c e => by
        rw [← e] at q'
        exact q'
      refine for_by rest.length (fun i σ H6 => ∃ (vs : List V) (ds : List PyData) (e4 e5 e6 e7 : Option V), σ = [some (.str x), some (.ref l), some (.ref t), some (.ref rq), e4, e5, e6, e7] ∧ Kp [] H H6 ∧ H6 t = some (.tup (nsV pl)) ∧ H6 rq = some (.lst vs) ∧ TDs H6 vs ds ∧ (∀ d ∈ ds, RoadD d) ∧ H6 l2 = some (.lst (rest.map fun q => .ref q.1)) ∧ LnsA C H H6 (rest.drop i) ∧
          (∀ q ∈ rest.drop i, ∀ tl, LnA C H6 q.1 tl q.2.1 q.2.2 ⟨0, 0, 0⟩ → rq ≠ tl) ∧ roadsM pl ((rest.drop i).map (·.2)) ds = R ∧ ds.length ≤ 200)
        ⟨[], [], none, none, none, none, rfl, (k03.trans k4).trans k5, k5.at0 (k4.at0 ht3), by rw [upd_ne rql2, upd_same], .nil, fun d hd => by simp at hd, upd_same, (L3.kp0 k4).kp0 k5, ?_, hR, Nat.zero_le _⟩ (fun i σ H6 hi hP => ?_) (fun σ H6 hP => ?_) (fun i v σ H6 H7 hi hP hy => ?_) (fun σ H6 hP => ?_)
      · intro q hq tl h'
        obtain ⟨tl2, h1, _⟩ := L3.all q hq
        have e := ((h1.kp0 k4).kp0 k5).tl_uniq h'
        rw [← e]
        exact (h1.ne hrq).2
      · obtain ⟨_, _, _, _, _, _, _, _, _, _, _, _, h7, _⟩ := hP
        exact ⟨_, .ref rest[i].1, SqL.of h7, by rw [List.getElem?_map, List.getElem?_eq_getElem hi]; rfl⟩
      · obtain ⟨_, _, _, _, _, _, _, _, _, _, _, _, h7, _⟩ := hP
        exact ⟨_, SqL.of h7, by rw [List.length_map]; exact Nat.le_refl _⟩
      · obtain ⟨vs, ds, e4, e5, e6, e7, rfl, k6, ht6, hq6, hd6, hrd, hl6, L6, nt6, he, h200⟩ := hP
        obtain ⟨rfl, hx2⟩ := hy
        have hv : v = .ref rest[i].1 := by
          have := hx2 _ (SqL.of hl6)
          rw [List.getElem?_map, List.getElem?_eq_getElem hi] at this
          injection this with this
          exact this.symm
        subst hv
        rw [List.drop_eq_getElem_cons hi] at L6 he nt6
        obtain ⟨⟨a, T, n⟩, hp0⟩ : ∃ p0 : LnP, rest[i] = p0 := ⟨_, rfl⟩
        rw [hp0] at L6 he nt6 ⊢
        obtain ⟨tl, La, ha0⟩ := L6.all _ (List.mem_cons_self ..)
        replace La : LnA C H7 a tl T n ⟨0, 0, 0⟩ := La
        replace ha0 : H a = none := ha0
        have qtl : rq ≠ tl := nt6 _ (List.mem_cons_self ..) tl La
        replace he : (if tk T 0 = "road" ∧ ds.length < 200 then (match roadM pl T with
            | .error c => (.error (n, c) : Except (Nat × Nat) (List PyData))
            | .ok d => roadsM pl ((rest.drop (i + 1)).map (·.2)) (ds ++ [d]))
          else .error (n, cl T 0)) = R := he
        obtain ⟨dx, us, h1, _, _⟩ := La.ex
        have qa : rq ≠ a := ne_of hq6 h1 (by simp)
        have l2a : l2 ≠ a := ne_of hl6 h1 (by simp)
        have ta : t ≠ a := ne_of ht6 h1 (by simp)
        have lenv := hd6.len
        -- the first word
        have step : ∀ (b : Bool) (Kc : VK), b = decide (tk T 0 = "road" ∧ ds.length < 200) → (b = true → ∀ H8, Kp [a] H7 H8 → LnA C H8 a tl T n ⟨1, 0, 0⟩ → Kc (.str (tk T 0)) H8) → spTake C S [.ref a, .bl b] H7 Kc E := by
          intro b Kc hb hK
          refine ⟨a, tl, b, T, n, ⟨0, 0, 0⟩, rfl, La, fun hne hk H8 k8 L8 => hK hk H8 k8 L8, fun hz => ?_⟩
          have hb' : b = false := by
            rcases hz with z | z
            · have z' : tk T 0 = "" := z
              rw [hb]
              exact decide_eq_false fun y => by
                rw [z'] at y
                exact absurd y.1 (by decide)
            · exact z
          rw [hb'] at hb
          rw [if_neg (of_decide_eq_false hb.symm)] at he
          exact Err.loc (qN n _ he) k6 ha0
        refine seq_Z fun Z hZ => ?_
        have rest2 : (tk T 0 = "road" ∧ ds.length < 200) → ∀ H8, Kp [a] H7 H8 → LnA C H8 a tl T n ⟨1, 0, 0⟩ → Z [some (.str x), some (.ref l), some (.ref t), some (.ref rq), some (.ref a), e5, e6, e7] H8 := by
          intro hc H8 k8 L8
          rw [if_pos hc] at he
          have herr : ∀ c, roadM pl T = .error c → Err S [] H n c E := fun c e => by
            rw [e] at he
            exact qN n c he
          have hok : ∀ d, roadM pl T = .ok d → roadsM pl ((rest.drop (i + 1)).map (·.2)) (ds ++ [d]) = R := fun d e => by
            rw [e] at he
            exact he
          rw [hZ]
          have k08 := k6.loc ha0 k8
          obtain ⟨dx8, us8, i8, _, _⟩ := L8.ex
          refine ⟨_, rfl, a, dx8, _, rfl, i8, rfl, _, rfl, a, dx8, _, rfl, i8, rfl, a, tl, T, n, _, rfl, L8, tk T 1, rfl, L8.ok.small _, fun H9 k9 => ?_⟩
          have L9 := L8.kp0 k9
          have k09 := k08.trans k9
          refine ⟨a, tl, _, T, n, ⟨1, 0, 0⟩, rfl, L9, fun hne hlt H10 k10 L10 => ?_, fun hz => ?_⟩
          · -- the ends
            have k010 := k09.loc ha0 k10
            have k710 := (k8.trans k9.any).trans k10
            have ht10 : H10 t = some (.tup (nsV pl)) := k710.at_ ht6 (by simpa using ta)
            obtain ⟨dx10, us10, i10, _, _⟩ := L10.ex
            refine ⟨_, rfl, _, rfl, a, tl, t, T, n, _, pl, rfl, L10, ht10, fun n1 hn1 H11 k11 L11 => ?_, fun hz => ?_⟩
            · replace hn1 : placeM pl (tk T 2) = some n1 := hn1
              have ht11 : H11 t = some (.tup (nsV pl)) := k11.at_ ht10 (by simpa using ta)
              refine ⟨_, rfl, _, rfl, a, tl, t, T, n, _, pl, rfl, L11, ht11, fun n2 hn2 H12 k12 L12 => ?_, fun hz => ?_⟩
              · replace hn2 : placeM pl (tk T 3) = some n2 := hn2
                have k012 := (k010.loc ha0 k11).loc ha0 k12
                have k712 := (k710.trans k11).trans k12
                have hq12 : H12 rq = some (.lst vs) := k712.at_ hq6 (by simpa using qa)
                obtain ⟨dx12, us12, i12, _, _⟩ := L12.ex
                refine ⟨_, _, rfl, _, rfl, .inl ⟨rfl, _, SqL.of hq12⟩, _, rfl, _, rfl, _, rfl, _, rfl, a, dx12, _, rfl, i12, rfl, a, tl, T, n, 1000000, _, rfl, L12, .inr (.inr rfl), fun n3 hn3 H13 k13 L13 => ⟨(by show 4 ≤ sizeLine; decide), fun pt hpt => ?_⟩, fun hz => ?_⟩
                · replace hn3 : figsM (tk T 4) 1000000 = some n3 := hn3
                  have k013 := k012.loc ha0 k13
                  have k713 := k712.trans k13
                  have hq13 : H13 rq = some (.lst vs) := k13.at_ hq12 (by simpa using qa)
                  have hq14 : upd H13 pt (.tup [.str (tk T 1), .int (n1 : Nat), .int (n2 : Nat), .int (n3 : Nat)]) rq = some (.lst vs) := by rw [upd_ne (ne_of_none hq13 hpt)]; exact hq13
                  have kn := (Kp.refl [] H13).new hpt (.tup [.str (tk T 1), .int (n1 : Nat), .int (n2 : Nat), .int (n3 : Nat)])
                  have L15 := (L13.kp0 kn).other (us' := vs ++ [.ref pt]) qa qtl hq14
                  have k015 := ((k013.trans kn).upN hrq0 (.lst (vs ++ [.ref pt])))
                  refine ⟨rq, _, _, rfl, rfl, hq14, by rw [sizeLine_eq]; omega, ?_⟩
                  obtain ⟨dx15, us15, i15, _, _⟩ := L15.ex
                  refine ⟨_, rfl, a, dx15, _, rfl, i15, rfl, a, tl, T, n, _, rfl, L15, fun hz => ?_, fun hz => ?_⟩
                  · replace hz : tk T 5 = "" := hz
                    have eok : roadM pl T = .ok (.tuple [.str (tk T 1), .int (n1 : Nat), .int (n2 : Nat), .int (n3 : Nat)]) := by
                      unfold roadM
                      rw [if_pos hlt, hn1]
                      show (match placeM pl (tk T 3) with
                        | none => _
                        | some b => _) = _
                      rw [hn2]
                      show (match figsM (tk T 4) 1000000 with
                        | none => _
                        | some b => _) = _
                      rw [hn3]
                      exact if_pos hz
                    have L16 : LnsA C H H13 (rest.drop (i + 1)) := L6.mv (C' := 0) (dx := 0) (fs := []) k713
                    have nt7 : ∀ q ∈ rest.drop (i + 1), ∀ tl, LnA C H7 q.1 tl q.2.1 q.2.2 ⟨0, 0, 0⟩ → rq ≠ tl := fun q hq => nt6 q (List.mem_cons_of_mem _ hq)
                    have L6r : LnsA C H H7 (rest.drop (i + 1)) := ⟨(List.nodup_cons.mp L6.nd).2, fun q hq => L6.all q (List.mem_cons_of_mem _ hq)⟩
                    have nt13 := L6r.nt_kp L16 (L6.mvU k713) nt7
                    have L17 := L16.kp0 kn
                    have nt17 := L16.nt_kp L17 (fun q hq tl h => h.kp0 kn) nt13
                    refine ⟨vs ++ [.ref pt], ds ++ [.tuple [.str (tk T 1), .int (n1 : Nat), .int (n2 : Nat), .int (n3 : Nat)]], _, _, _, _, rfl, k015, ?_, upd_same, ?_, ?_, ?_, L17.lst hq14 nt17, L17.other hq14 nt17, hok _ eok, ?_⟩
                    · rw [upd_ne (ne_of ht6 hq6 (by simp))]
                      exact kn.at0 (k713.at_ ht6 (by simpa using ta))
                    · exact (((hd6.tu k713.tu).tu kn.tu).app (TDs.one (TD.tup upd_same (.cons (.str _) (.cons (.int _) (.cons (.int _) (TDs.one (.int _)))))))).tu (Tu.lst hq14)
                    · intro d hd
                      rcases List.mem_append.mp hd with hd | hd
                      · exact hrd d hd
                      · simp at hd
                        exact ⟨_, _, _, _, hd⟩
                    · have hl13 : H13 l2 = some (.lst (rest.map fun q => .ref q.1)) := k713.at_ hl6 (by simpa using l2a)
                      by_cases z : l2 = rq
                      · exact absurd z.symm rql2
                      · rw [upd_ne z]
                        exact kn.at0 hl13
                    · rw [List.length_append]
                      show ds.length + 1 ≤ 200
                      omega
                  · replace hz : tk T 5 ≠ "" := hz
                    refine Err.loc (herr (cl T 5) ?_) k015 ha0
                    unfold roadM
                    rw [if_pos hlt, hn1]
                    show (match placeM pl (tk T 3) with
                      | none => _
                      | some b => _) = _
                    rw [hn2]
                    show (match figsM (tk T 4) 1000000 with
                      | none => _
                      | some b => _) = _
                    rw [hn3]
                    exact if_neg hz
                · replace hz : figsM (tk T 4) 1000000 = none := hz
                  refine Err.loc (herr (cl T 4) ?_) k012 ha0
                  unfold roadM
                  rw [if_pos hlt, hn1]
                  show (match placeM pl (tk T 3) with
                    | none => _
                    | some b => _) = _
                  rw [hn2]
                  show (match figsM (tk T 4) 1000000 with
                    | none => _
                    | some b => _) = _
                  rw [hz]
              · replace hz : placeM pl (tk T 3) = none := hz
                refine Err.loc (herr (cl T 3) ?_) (k010.loc ha0 k11) ha0
                unfold roadM
                rw [if_pos hlt, hn1]
                show (match placeM pl (tk T 3) with
                  | none => _
                  | some b => _) = _
                rw [hz]
            · replace hz : placeM pl (tk T 2) = none := hz
              refine Err.loc (herr (cl T 2) ?_) k010 ha0
              unfold roadM
              rw [if_pos hlt, hz]
          · have hz' : ¬ letterM (tk T 1) = true := by
              rcases hz with z | z
              · have z' : tk T 1 = "" := z
                rw [z', letterM_nil]
                decide
              · rw [z]
                decide
            refine Err.loc (herr (cl T 1) ?_) k09 ha0
            unfold roadM
            rw [if_neg hz']
        refine ⟨_, rfl, a, dx, _, rfl, h1, rfl, _, rfl, a, dx, _, rfl, h1, rfl, a, tl, T, n, _, rfl, La, rfl, _, rfl, ite2 (fun h5 => ?_) (fun h5 => ?_)⟩
        · have h5' : tk T 0 = "road" := by simpa using h5
          refine ⟨_, rfl, _, _, rfl, .inl ⟨_, SqL.of hq6, rfl⟩, _, _, rfl, rfl, ?_⟩
          dsimp only [tNil]
          have eb : decide (((vs.length : Nat) : Int) < 200) = decide (tk T 0 = "road" ∧ ds.length < 200) := decide_eq_decide.mpr ⟨fun z => ⟨h5', by omega⟩, fun z => by omega⟩
          exact step _ _ eb fun hb H8 k8 L8 => rest2 (by rw [eb] at hb; exact of_decide_eq_true hb) H8 k8 L8
        · have h5' : ¬ tk T 0 = "road" := by simpa using h5
          dsimp only [tNil]
          exact step false _ (decide_eq_false fun z => h5' z.1).symm fun z => by cases z
      · obtain ⟨vs, ds, e4, e5, e6, e7, rfl, k6, ht6, hq6, hd6, hrd, hl6, L6, nt6, he, h200⟩ := hP
        rw [List.drop_length] at he
        replace he : (.ok ds : Except (Nat × Nat) (List PyData)) = R := he
        rw [← he] at q'
        refine ⟨_, rfl, _, rfl, rq, vs, ds, rfl, SqL.of hq6, hd6, road_alike hrd, road_sortable hrd, road_depth hrd, fun p3 ys hys hp3 => ⟨p3, ys, rfl, .inl ⟨SqL.of upd_same, fun p4 hp4 => ⟨(by show 2 ≤ sizeLine; decide), fun p5 hp5 => ?_⟩⟩⟩⟩
        have k7 := (Kp.refl [] H6).new hp3 (.lst ys)
        have k8 := k7.new hp4 (.tup ys)
        have k9 := k8.new hp5 (.tup [.ref t, .ref p4])
        refine q' _ _ (k6.trans k9) (.inl (TD.tup upd_same (.cons ?_ (TDs.one ?_))))
        · exact TD.tup (k9.at0 ht6) (TDs.nats pl)
        · have kp := (Kp.refl [] _).new hp5 (.tup [.ref t, .ref p4])
          exact TD.tup (kp.at0 upd_same) (((hys.tu (Tu.new hp3)).tu (Tu.new hp4)).tu (Tu.new hp5))
end T65
end
section
/-! W17: the law's reader: its small defs. -/
namespace T65
open PySem PySem.Spec PyProof.Rows L2
def spNext : Sp := fun vs H Q _ => ∃ (a tl : Addr) (T : TkL) (n : Nat) (s : PSt), vs = [.ref a] ∧ RdA H a tl T n s ∧ Q (.str (tk T s.p)) H
def spFail : Sp := fun vs H Q _ => ∃ (a tl : Addr) (T : TkL) (n : Nat) (s : PSt), vs = [.ref a] ∧ RdA H a tl T n s ∧ ∀ (H' : Hp) (v : V), Kp [] H H' → TD H' v (probD n (cl T s.p)) → Q v H'
def spMade : Sp := fun vs H Q _ => ∃ (x : Str) (n : Nat), vs = [.str x, .int (n : Nat)] ∧ x.length < 2 ^ 19 ∧ n < 2 ^ 30 ∧ ∀ (H' : Hp) (a tl : Addr), Kp [] H H' → H a = none → H tl = none → RdA H' a tl (toks x) n ⟨0, 0, 0⟩ → Q (.ref a) H'
def probB : PyData → Bool
  | .tuple (.str x :: _) => x == "syntax"
  | _ => false
/-- a text, or a tuple of two or more that begins with a text -/
def Told (d : PyData) : Prop := (∃ x, d = .str x) ∨ ∃ (x : Str) (d1 : PyData) (r : List PyData), d = .tuple (.str x :: d1 :: r)
def spIsProb : Sp := fun vs H Q _ => ∃ (v : V) (d : PyData), vs = [v] ∧ TD H v d ∧ Told d ∧ ∀ H', Kp [] H H' → Q (.bl (probB d)) H'
def spWhole : Sp := fun vs H Q _ => ∃ (a : Addr) (v : V) (d : PyData), vs = [.ref a, v] ∧ TD H v d ∧ Told d ∧ (probB d = true → ∀ H', Kp [] H H' → Q v H') ∧
  (probB d = false → ∃ (tl : Addr) (T : TkL) (n : Nat) (s : PSt), RdA H a tl T n s ∧ (tk T s.p = "" → ∀ H', Kp [] H H' → Q v H') ∧ (tk T s.p ≠ "" → ∀ (H' : Hp) (v' : V), Kp [] H H' → TD H' v' (probD n (cl T s.p)) → Q v' H'))
/-- what a reader of the law tells: the data, or the problem -/
def DoesL (r : Except Nat (PyData × PSt)) (a tl : Addr) (T : TkL) (n : Nat) (H : Hp) (Q : VK) : Prop := match r with
  | .ok (d, s) => ∀ (H' : Hp) (v : V), Kp [a] H H' → RdA H' a tl T n s → TD H' v d → Q v H'
  | .error c => ∀ (H' : Hp) (v : V), Kp [a] H H' → TD H' v (probD n c) → Q v H'
theorem DoesL.mono {r : Except Nat (PyData × PSt)} {a tl : Addr} {T : TkL} {n : Nat} {H H1 : Hp} {Q : VK} (h : DoesL r a tl T n H Q) (k : Kp [a] H H1) : DoesL r a tl T n H1 Q := by
  unfold DoesL at h ⊢
  split
  · next d s => exact fun H' v k' => h H' v (k.trans k')
  · next c => exact fun H' v k' => h H' v (k.trans k')
def letterR (T : TkL) (s : PSt) : Except Nat (PyData × PSt) := if (letterM (tk T s.p) && decide (s.l + 1 ≤ 12)) = true then .ok (.str (tk T s.p), ⟨s.p + 1, s.r, s.l + 1⟩) else .error (cl T s.p)
def spReadLetter : Sp := fun vs H Q _ => ∃ (a tl : Addr) (T : TkL) (n : Nat) (s : PSt), vs = [.ref a] ∧ RdA H a tl T n s ∧ DoesL (letterR T s) a tl T n H Q
section
variable {P : Program} {w : World} {K : PySem.W.Frag} {mg : Str → Option Value} {base : Heap} {C S f : Addr} {fd : FuncData}
theorem ok_law_next (g : G65 K mg C S) (F : Fn K "_law_next" s_law_next f fd) (gF : mg "_law_next" = some (.ref f)) : Cal P w K mg base CX0 1 "_law_next" p_law_next spNext := by
  refine cal_of F gF sc_law_next (fun vs H Q E h => by obtain ⟨a, tl, T, n, s, rfl, _⟩ := h; rfl) (fun cdv A outer s H vs Q E hr h => ⟨_,
      (pss_one (ps_ret (pe_ix (r := rIxT K) ix_tup (pe_ix (r := rIxL K) ix_list (pe_ix (r := rIxL K) ix_list (pv 0) pe_int (fun _ _ => rfl)) (pe_ix (r := rIxL K) ix_list (pv 0) pe_int (fun _ _ => rfl)) (fun _ _ => rfl)) pe_int (fun _ _ => rfl)))), ?_⟩) (fun _ _ _ _ _ _ us hl => match us, hl with | [_], _ => rfl)
  obtain ⟨a, tl, T, n, s, rfl, L, q⟩ := h
  obtain ⟨us, h0, h1, h2, h3⟩ := L.ex
  obtain ⟨b, e1, e2⟩ := tok_at h3 L.lt
  exact ⟨_, rfl, a, _, 0, .ref tl, rfl, rfl, SqL.of h1, rfl, _, rfl, a, _, 2, .int s.p, rfl, rfl, SqL.of h1, rfl, tl, us, _, _, rfl, rfl, SqL.of h2, atI_nat e1, b, _, 0, _, rfl, rfl, SqT.of e2, rfl, q⟩
theorem ok_law_fail (g : G65 K mg C S) (F : Fn K "_law_fail" s_law_fail f fd) (gF : mg "_law_fail" = some (.ref f)) : Cal P w K mg base CX0 1 "_law_fail" p_law_fail spFail := by
  refine cal_of F gF sc_law_fail (fun vs H Q E h => by obtain ⟨a, tl, T, n, s, rfl, _⟩ := h; rfl) (fun cdv A outer s H vs Q E hr h => ⟨_,
      (pss_one (ps_ret (pe_tup (pa_cons pe_str (pa_cons (pe_ix (r := rIxL K) ix_list (pv 0) pe_int (fun _ _ => rfl)) (pa_cons (pe_ix (r := rIxT K) ix_tup (pe_ix (r := rIxL K) ix_list (pe_ix (r := rIxL K) ix_list (pv 0) pe_int (fun _ _ => rfl)) (pe_ix (r := rIxL K) ix_list (pv 0) pe_int (fun _ _ => rfl)) (fun _ _ => rfl)) pe_int (fun _ _ => rfl)) pa_nil)))))), ?_⟩) (fun _ _ _ _ _ _ us hl => match us, hl with | [_], _ => rfl)
  obtain ⟨a, tl, T, n, s, rfl, L, q⟩ := h
  obtain ⟨us, h0, h1, h2, h3⟩ := L.ex
  obtain ⟨b, e1, e2⟩ := tok_at h3 L.lt
  refine ⟨_, rfl, a, _, 1, .int n, rfl, rfl, SqL.of h1, rfl, _, rfl, a, _, 0, .ref tl, rfl, rfl, SqL.of h1, rfl, _, rfl, a, _, 2, .int s.p, rfl, rfl, SqL.of h1, rfl, tl, us, _, _, rfl, rfl, SqL.of h2, atI_nat e1, b, _, 1, _, rfl, rfl, SqT.of e2, rfl, (by show 3 ≤ sizeLine; decide), fun p hp => ?_⟩
  exact q _ _ ((Kp.refl [] H).new hp _) (TD.tup upd_same (.cons (.str _) (.cons (.int _) (TDs.one (.int _)))))
theorem ok_law_made_reader (g : G65 K mg C S) (F : Fn K "_law_made_reader" s_law_made_reader f fd) (gF : mg "_law_made_reader" = some (.ref f)) (c_law_tokens : Cal P w K mg base CX0 1 "_law_tokens" p_law_tokens spToks) : Cal P w K mg base CX0 2 "_law_made_reader" p_law_made_reader spMade := by
  refine cal_of F gF sc_law_made_reader (fun vs H Q E h => by obtain ⟨x, n, rfl, _⟩ := h; rfl) (fun cdv A outer s H vs Q E hr h => ⟨_,
      (pss_one (ps_ret (pe_lst (pa_cons (pe_cal c_law_tokens hr pass0 (pa_cons (pv 0) pa_nil)) (pa_cons (pv 1) (pa_cons pe_int (pa_cons pe_int (pa_cons pe_int pa_nil)))))))), ?_⟩) (fun _ _ _ _ _ _ us hl => match us, hl with | [_, _], _ => rfl)
  obtain ⟨x, n, rfl, hx, hn, q⟩ := h
  refine ⟨_, rfl, x, rfl, hx, fun H1 l us k1 hl h1 t1 => ⟨_, rfl, (by show 5 ≤ sizeLine; decide), fun a ha => ?_⟩⟩
  have ne : l ≠ a := ne_of_none h1 ha
  exact q _ a l (k1.new ha _) (k1.fresh ha) hl ⟨⟨us, ne, upd_same, by rw [upd_ne ne]; exact h1, t1.tu (Tu.new ha)⟩, toks_ok hx, hn, (toks_ok hx).pos⟩
theorem kTup {K : PySem.W.Frag} : PySem.W.kitOne K (.type "tuple") (.type "tuple") = some true := kit_ty (by decide +kernel)
theorem kStrTup {K : PySem.W.Frag} : PySem.W.kitOne K (.type "str") (.type "tuple") = some false := kit_ty (by decide +kernel)
theorem ok_law_is_problem (g : G65 K mg C S) (F : Fn K "_law_is_problem" s_law_is_problem f fd) (gF : mg "_law_is_problem" = some (.ref f)) : Cal P w K mg base CX0 1 "_law_is_problem" p_law_is_problem spIsProb := by
  refine cal_of F gF sc_law_is_problem (fun vs H Q E h => by obtain ⟨v, d, rfl, _⟩ := h; rfl) (fun cdv A outer s H vs Q E hr h => ⟨_,
      (pss_one (ps_ret (pe_and (pe_callB call_isi rfl g.isinstance rfl (pa_cons (pv 0) (pa_cons (pe_bltn (v := .ty "tuple") rfl g.tuple rfl rfl) pa_nil))) (pe_one (pe_cmpR (op_eqT1 (hu64 hr)) (pe_slice (r := rSlA K) sl_tupA (pv 0) po_none (po_some pe_int)) (pe_tup (pa_cons pe_str pa_nil)) (nomark _)))))), ?_⟩) (fun _ _ _ _ _ _ us hl => match us, hl with | [_], _ => rfl)
  obtain ⟨v, d, rfl, hd, ht, q⟩ := h
  rcases ht with ⟨x, rfl⟩ | ⟨x, d1, r, rfl⟩
  · cases hd
    exact ⟨_, rfl, _, _, _, _, false, rfl, .ty "tuple", .base (.str x), kStrTup, _, rfl, q H (Kp.refl [] H)⟩
  · cases hd with
    | tup hs ha =>
      cases ha with
      | cons a0 ar =>
        cases a0
        cases ar with
        | @cons v1 vr _ _ a1 ar =>
          refine ⟨_, rfl, _, _, _, _, true, rfl, .ty "tuple", .base (.tup hs), kTup, _, rfl, ?_⟩
          refine ⟨_, rfl, _, rfl, _, _, rfl, SqT.of hs, fun z => ?_, fun _ p1 hp1 => ?_⟩
          · exfalso
            have := z.2
            rw [show (some (1 : Int)) = some (((1 : Nat) : Int)) from rfl, HT.sIx_nat, List.length_cons, List.length_cons] at this
            omega
          · have ec : cutV (V.str x :: v1 :: vr) none (some 1) = [V.str x] := by
              unfold cutV
              rw [HT.sIx_none, show (some (1 : Int)) = some (((1 : Nat) : Int)) from rfl, HT.sIx_nat, List.length_cons, List.length_cons, Nat.min_eq_left (by omega)]
              rfl
            rw [ec]
            refine ⟨(by show 1 ≤ sizeLine; decide), fun p2 hp2 => ?_⟩
            have n12 : p1 ≠ p2 := ne_of_none upd_same hp2
            exact ⟨p1, p2, .str x, .str "syntax", rfl, rfl, SqT.of (by rw [upd_ne n12, upd_same]), SqT.of upd_same, rfl, rfl, q _ (((Kp.refl [] H).new hp1 (.tup [.str x])).new hp2 (.tup [.str "syntax"]))⟩
theorem ok_law_whole (g : G65 K mg C S) (F : Fn K "_law_whole" s_law_whole f fd) (gF : mg "_law_whole" = some (.ref f)) (c_law_is_problem : Cal P w K mg base CX0 1 "_law_is_problem" p_law_is_problem spIsProb) (c_law_next : Cal P w K mg base CX0 1 "_law_next" p_law_next spNext) (c_law_fail : Cal P w K mg base CX0 1 "_law_fail" p_law_fail spFail) :
    Cal P w K mg base CX0 2 "_law_whole" p_law_whole spWhole := by
  refine cal_of F gF sc_law_whole (fun vs H Q E h => by obtain ⟨a, v, d, rfl, _⟩ := h; rfl) (fun cdv A outer s H vs Q E hr h => ⟨_,
      (pss_one (ps_ret (pe_ifExp (PW.pt (pw_or (pt_val (pe_cal c_law_is_problem hr pass0 (pa_cons (pv 1) pa_nil))) (pw_or1 (pt_cmpR op_eq (pe_cal c_law_next hr pass0 (pa_cons (pv 0) pa_nil)) pe_str (nomark _))))) (pv 1) (pe_cal c_law_fail hr pass0 (pa_cons (pv 0) pa_nil))))), ?_⟩) (fun _ _ _ _ _ _ us hl => match us, hl with | [_, _], _ => rfl)
  obtain ⟨a, v, d, rfl, hd, ht, qy, qn⟩ := h
  refine ⟨_, rfl, v, d, rfl, hd, ht, fun H1 k1 => ⟨_, rfl, ite2 (fun h1 => ?_) (fun h1 => ?_)⟩⟩
  · exact ⟨_, rfl, qy h1 H1 k1⟩
  · obtain ⟨tl, T, n, s, L, q1, q2⟩ := qn (Bool.not_eq_true _ |>.mp h1)
    have L1 := L.kp0 k1
    refine ⟨_, rfl, a, tl, T, n, s, rfl, L1, rfl, _, rfl, ite2 (fun h2 => ?_) (fun h2 => ?_)⟩
    · exact ⟨_, rfl, q1 (by simpa using h2) H1 k1⟩
    · exact ⟨_, rfl, a, tl, T, n, s, rfl, L1, fun H2 v' k2 t2 => q2 (by simpa using h2) H2 v' (k1.trans k2) t2⟩
theorem ok_law_read_letter (g : G65 K mg C S) (F : Fn K "_law_read_letter" s_law_read_letter f fd) (gF : mg "_law_read_letter" = some (.ref f)) (c_law_is_letter : Cal P w K mg base CX0 1 "_law_is_letter" p_law_is_letter spLetter) (c_law_next : Cal P w K mg base CX0 1 "_law_next" p_law_next spNext) (c_law_fail : Cal P w K mg base CX0 1 "_law_fail" p_law_fail spFail) :
    Cal P w K mg base CX0 2 "_law_read_letter" p_law_read_letter spReadLetter := by
  refine cal_of F gF sc_law_read_letter (fun vs H Q E h => by obtain ⟨a, tl, T, n, s, rfl, _⟩ := h; rfl) (fun cdv A outer s H vs Q E hr h => ⟨_,
      (pss_cons (ps_asg (pe_op op_add (pe_ix (r := rIxL K) ix_list (pv 0) pe_int (fun _ _ => rfl)) pe_int) (pg_sub (pv 0) pe_int set_list))
      (pss_cons (ps_set (i := 1) sc_law_read_letter.nd rfl (by first | exact Or.inl rfl | exact Or.inr rfl) (pe_cal c_law_next hr pass0 (pa_cons (pv 0) pa_nil)))
      (pss_cons (ps_if (PW.pt (pw_or (pt_not (pt_val (pe_cal c_law_is_letter hr pass0 (pa_cons (pv 1) pa_nil)))) (pw_or1 (pt_cmpR op_gt (pe_ix (r := rIxL K) ix_list (pv 0) pe_int (fun _ _ => rfl)) pe_int (nomark _)))))
        (pss_one (ps_ret (pe_cal c_law_fail hr pass0 (pa_cons (pv 0) pa_nil))))
        pss_nil)
      (pss_cons (ps_asg (pe_op op_add (pe_ix (r := rIxL K) ix_list (pv 0) pe_int (fun _ _ => rfl)) pe_int) (pg_sub (pv 0) pe_int set_list))
      (pss_one (ps_ret (pv 1))))))), ?_⟩) (fun _ _ _ _ _ _ us hl => match us, hl with | [_], _ => rfl)
  obtain ⟨a, tl, T, n, s, rfl, L, q⟩ := h
  obtain ⟨us, h0, h1, h2, h3⟩ := L.ex
  have L1 := L.mv (s' := ⟨s.p, s.r, s.l + 1⟩) h0 h1 h2 h3 L.lt
  have k1 := (Kp.refl [a] H).upR (List.mem_singleton.mpr rfl) L.chg (.lst [.ref tl, .int n, .int s.p, .int s.r, .int ((s.l : Nat) + 1)])
  refine ⟨_, rfl, a, _, 4, .int s.l, rfl, rfl, SqL.of h1, rfl, _, _, rfl, rfl, _, rfl, a, _, 4, 4, rfl, rfl, h1, rfl, ?_⟩
  refine ⟨_, rfl, a, tl, T, n, ⟨s.p, s.r, s.l + 1⟩, rfl, L1, _, rfl, tk T s.p, rfl, L.ok.small _, fun H2 k2 => ⟨_, rfl, ?_⟩⟩
  have L2' := L1.kp0 k2
  have k02 := k1.trans k2.any
  obtain ⟨us2, i0, i1, i2, i3⟩ := L2'.ex
  unfold letterR at q
  have bad : (letterM (tk T s.p) && decide (s.l + 1 ≤ 12)) = false → tCall spFail [] E0 (tCons (tVar 0) tNil) [some (.ref a), some (.str (tk T s.p))] H2 Q := fun z => by
    rw [z] at q
    exact ⟨_, rfl, a, tl, T, n, _, rfl, L2', fun H3 v k3 t3 => q H3 v (k02.trans k3.any) t3⟩
  refine ite2 (fun h4 => ?_) (fun h4 => ?_)
  · have h4' : letterM (tk T s.p) = false := by simpa using h4
    exact bad (by rw [h4']; rfl)
  · have h4' : letterM (tk T s.p) = true := by simpa using h4
    refine ⟨_, rfl, a, _, 4, .int ((s.l : Nat) + 1), rfl, rfl, SqL.of i1, rfl, _, _, rfl, rfl, _, rfl, ite2 (fun h5 => ?_) (fun h5 => ?_)⟩
    · have h5' : ¬ s.l + 1 ≤ 12 := by
        have := of_decide_eq_true h5
        omega
      exact bad (by rw [decide_eq_false h5']; simp)
    · have h5' : s.l + 1 ≤ 12 := by
        simp at h5
        omega
      rw [h4', decide_eq_true h5'] at q
      have hne : tk T s.p ≠ "" := fun z => by
        rw [z, letterM_nil] at h4'
        cases h4'
      refine ⟨_, rfl, a, _, 2, .int s.p, rfl, rfl, SqL.of i1, rfl, _, _, rfl, rfl, _, rfl, a, _, 2, 2, rfl, rfl, i1, rfl, ?_⟩
      refine ⟨_, rfl, q _ _ (k02.upR (List.mem_singleton.mpr rfl) L.chg _) (L2'.mv (s' := ⟨s.p + 1, s.r, s.l + 1⟩) i0 i1 i2 i3 (L.ok.last _ L.lt hne)) (.str _)⟩
end
end T65
end
section
/-! W18: the law's read_rule. -/
namespace T65
open PySem PySem.Spec PyProof.Rows L2
def spLRule (k : Nat) : Sp := fun vs H Q _ => ∃ (a tl : Addr) (T : TkL) (n : Nat) (s : PSt) (lev : Int), vs = [.ref a, .int lev] ∧ RdA H a tl T n s ∧ lev + k = 9 ∧ k ≤ 8 ∧ DoesL (ruleM T k s) a tl T n H Q
def spLR : Nat → Sp
  | 0 => fun _ _ _ _ => False
  | k + 1 => spLRule k
theorem gen_H {F : Hp → Prop} {H H' : Hp} (e : H = H') (h : F H') : F H := e ▸ h
theorem told_prob (n c : Nat) : Told (probD n c) := .inr ⟨_, _, _, rfl⟩
theorem prob_prob (n c : Nat) : probB (probD n c) = true := by
  show (("syntax" : Str) == ("syntax" : Str)) = true
  decide
/-- a rule's data -/
theorem ruleM_told {T : TkL} : ∀ {k : Nat} {s s' : PSt} {d : PyData}, ruleM T k s = .ok (d, s') → Told d ∧ probB d = false
  | 0, _, _, _, h => by cases h
  | k + 1, s, s', d, h => by
    unfold ruleM at h
    split at h
    · next hk =>
      split at h
      · split at h
        · cases h
        · split at h
          · cases h
            refine ⟨.inr ⟨_, _, _, rfl⟩, ?_⟩
            show (tk T s.p == ("syntax" : Str)) = false
            simp only [Bool.and_eq_true] at hk
            have hm : tk T s.p ∈ kinds := by simpa using hk.1
            rw [← Bool.not_eq_true, beq_iff_eq]
            intro z
            rw [z] at hm
            exact absurd hm (by decide)
          · cases h
      · cases h
    · cases h
theorem kinds_ne {x : Str} (h : kinds.contains x = true) : x ≠ "" := fun z => by
  rw [z] at h
  exact absurd h (by decide)
theorem ok_law_read_rule {P : Program} {w : World} {K : PySem.W.Frag} {mg : Str → Option Value} {base : Heap} {C S f : Addr} {fd : FuncData} {k j : Nat} (hk : 2 ≤ k) (g : G65 K mg C S) (F : Fn K "_law_read_rule" s_law_read_rule f fd) (gF : mg "_law_read_rule" = some (.ref f))
    (c_law_next0 : Cal P w K mg base CX0 1 "_law_next" p_law_next spNext) (c_law_fail0 : Cal P w K mg base CX0 1 "_law_fail" p_law_fail spFail) (c_law_is_problem0 : Cal P w K mg base CX0 1 "_law_is_problem" p_law_is_problem spIsProb) (c_law_read_letter0 : Cal P w K mg base CX0 2 "_law_read_letter" p_law_read_letter spReadLetter)
    (c_law_read_rule : Cal P w K mg base CX0 k "_law_read_rule" p_law_read_rule (spLR j)) : Cal P w K mg base CX0 (k + 1) "_law_read_rule" p_law_read_rule (spLRule j) := by
  have c_law_next := c_law_next0.imp (show 1 ≤ k by omega) fun _ _ _ _ z => z
  have c_law_fail := c_law_fail0.imp (show 1 ≤ k by omega) fun _ _ _ _ z => z
  have c_law_is_problem := c_law_is_problem0.imp (show 1 ≤ k by omega) fun _ _ _ _ z => z
  have c_law_read_letter := c_law_read_letter0.imp hk fun _ _ _ _ z => z
  refine cal_of F gF sc_law_read_rule (fun vs H Q E h => by obtain ⟨a, tl, T, n, s, lev, rfl, _⟩ := h; rfl) (fun cdv A outer s H vs Q E hr h => ⟨_,
      (pss_cons (ps_set (i := 2) sc_law_read_rule.nd rfl (by first | exact Or.inl rfl | exact Or.inr rfl) (pe_cal c_law_next hr pass0 (pa_cons (pv 0) pa_nil)))
      (pss_cons (ps_asg (pe_op op_add (pe_ix (r := rIxL K) ix_list (pv 0) pe_int (fun _ _ => rfl)) pe_int) (pg_sub (pv 0) pe_int set_list))
      (pss_cons (ps_if (PW.pt (pw_or (pt_cmpR op_notIn_seq (pv 2) (pe_tup (pa_cons pe_str (pa_cons pe_str (pa_cons pe_str (pa_cons pe_str pa_nil))))) (by with_unfolding_all rfl)) (pw_or (pt_cmpR op_gt (pe_ix (r := rIxL K) ix_list (pv 0) pe_int (fun _ _ => rfl)) pe_int (nomark _)) (pw_or1 (pt_cmpR op_gt (pv 1) pe_int (nomark _))))))
        (pss_one (ps_ret (pe_cal c_law_fail hr pass0 (pa_cons (pv 0) pa_nil))))
        pss_nil)
      (pss_cons (ps_asg (pe_op op_add (pe_ix (r := rIxL K) ix_list (pv 0) pe_int (fun _ _ => rfl)) pe_int) (pg_sub (pv 0) pe_int set_list))
      (pss_cons (ps_if (pt_cmpR op_ne (pe_cal c_law_next hr pass0 (pa_cons (pv 0) pa_nil)) pe_str (nomark _))
        (pss_one (ps_ret (pe_cal c_law_fail hr pass0 (pa_cons (pv 0) pa_nil))))
        pss_nil)
      (pss_cons (ps_asg (pe_tup (pa_cons (pe_op op_add (pe_ix (r := rIxL K) ix_list (pv 0) pe_int (fun _ _ => rfl)) pe_int) (pa_cons (pe_lst pa_nil) pa_nil))) (pg_tup rfl (pgs_cons (pg_sub (pv 0) pe_int set_list) (pgs_cons (pg_name (i := 3) sc_law_read_rule.nd rfl (by first | exact Or.inl rfl | exact Or.inr rfl)) pgs_nil))))
      (pss_cons (ps_while (passes_of rfl) (PW.pt (pw_or (pt_cmpR op_ne (pe_cal c_law_next hr pass0 (pa_cons (pv 0) pa_nil)) pe_str (nomark _)) (pw_or1 (PW.pt (pw_and (pt_cmpR op_eq (pv 2) pe_str (nomark _)) (pw_and1 (pt_cmpR (op_eqNil (hu64 hr)) (pv 3) (pe_lst pa_nil) (nomark _))))))))
        (pss_cons (ps_if (PW.pt (pw_and (pt_cmpR op_eq (pv 2) pe_str (nomark _)) (pw_and1 (pt_cmpR (op_neNil (hu64 hr)) (pv 3) (pe_lst pa_nil) (nomark _)))))
          (pss_one (ps_ret (pe_cal c_law_fail hr pass0 (pa_cons (pv 0) pa_nil))))
          pss_nil)
        (pss_cons (ps_if (PW.pt (pw_and (pt_cmpR (op_neNil (hu64 hr)) (pv 3) (pe_lst pa_nil) (nomark _)) (pw_and1 (pt_cmpR op_in_seq (pv 2) (pe_tup (pa_cons pe_str (pa_cons pe_str pa_nil))) (by with_unfolding_all rfl)))))
          (pss_cons (ps_if (pt_cmpR op_ne (pe_cal c_law_next hr pass0 (pa_cons (pv 0) pa_nil)) pe_str (nomark _))
            (pss_one (ps_ret (pe_cal c_law_fail hr pass0 (pa_cons (pv 0) pa_nil))))
            pss_nil)
          (pss_one (ps_asg (pe_op op_add (pe_ix (r := rIxL K) ix_list (pv 0) pe_int (fun _ _ => rfl)) pe_int) (pg_sub (pv 0) pe_int set_list))))
          pss_nil)
        (pss_cons (ps_set (i := 4) sc_law_read_rule.nd rfl (by first | exact Or.inl rfl | exact Or.inr rfl) (pe_ifExp (pt_cmpR op_eq (pv 2) pe_str (nomark _)) (pe_cal c_law_read_letter hr pass0 (pa_cons (pv 0) pa_nil)) (pe_cal c_law_read_rule hr pass0 (pa_cons (pv 0) (pa_cons (pe_op op_add (pv 1) pe_int) pa_nil)))))
        (pss_cons (ps_if (pt_val (pe_cal c_law_is_problem hr pass0 (pa_cons (pv 4) pa_nil)))
          (pss_one (ps_ret (pv 4)))
          pss_nil)
        (pss_one (ps_expr (pe_bm PySem.F.plainAttrs_list PySem.F.slot_list_append PySem.F.type_list_append mt_append (pv 3) (pa_cons (pv 4) pa_nil)))))))))
      (pss_cons (ps_asg (pe_op op_add (pe_ix (r := rIxL K) ix_list (pv 0) pe_int (fun _ _ => rfl)) pe_int) (pg_sub (pv 0) pe_int set_list))
      (pss_one (ps_ret (pe_tup (pa_cons (pv 2) (pa_cons (pe_ifExp (pt_cmpR op_eq (pv 2) pe_str (nomark _)) (pe_ix (r := rIxL K) ix_list (pv 3) pe_int (fun _ _ => rfl)) (pe_callTy call_tuple_of rfl g.tuple rfl (pa_cons (pv 3) pa_nil))) pa_nil))))))))))))), ?_⟩) (fun _ _ _ _ _ _ us hl => match us, hl with | [_, _], _ => rfl)
  obtain ⟨a, tl, T, n, s, lev, rfl, L, hlev, hj, q⟩ := h
  obtain ⟨us, h0, h1, h2, h3⟩ := L.ex
  refine ⟨_, rfl, a, tl, T, n, s, rfl, L, ?_⟩
  have L1 := L.mv (s' := ⟨s.p, s.r + 1, s.l⟩) h0 h1 h2 h3 L.lt
  have k1 := (Kp.refl [a] H).upR (List.mem_singleton.mpr rfl) L.chg (.lst [.ref tl, .int n, .int s.p, .int ((s.r : Nat) + 1), .int s.l])
  refine ⟨_, rfl, a, _, 3, .int s.r, rfl, rfl, SqL.of h1, rfl, _, _, rfl, rfl, _, rfl, a, _, 3, 3, rfl, rfl, h1, rfl, ?_⟩
  generalize hH1 : upd H a (HO.lst (List.set [V.ref tl, .int n, .int s.p, .int s.r, .int s.l] 3 (.int ((s.r : Nat) + 1)))) = H1
  replace L1 : RdA H1 a tl T n ⟨s.p, s.r + 1, s.l⟩ := by rw [← hH1]; exact L1
  replace k1 : Kp [a] H H1 := by rw [← hH1]; exact k1
  -- the problem at the place
  have fail : ∀ (H2 : Hp) (s2 : PSt) (σ : L2.St), σ[0]? = some (some (.ref a)) → Kp [a] H H2 → RdA H2 a tl T n s2 → ruleM T j s = .error (cl T s2.p) → tCall spFail [] E0 (tCons (tVar 0) tNil) σ H2 Q := by
    intro H2 s2 σ s0 k2 L2' e
    rw [e] at q
    exact ⟨_, s0, a, tl, T, n, s2, rfl, L2', fun H3 v k3 t3 => q H3 v (k2.trans k3.any) t3⟩
  obtain ⟨us1, g0, g1, g2, g3⟩ := L1.ex
  have eIn : inV (.str (tk T s.p)) (kinds.map V.str) = kinds.contains (tk T s.p) := inV_strs _ _
  refine ⟨_, rfl, (by show 4 ≤ sizeLine; decide), fun p1 hp1 => ⟨p1, kinds.map V.str, rfl, .inr (SqT.of upd_same), rfl, rfl, _, rfl, ?_⟩⟩
  have kk := (Kp.refl [] H1).new hp1 (.tup [V.str "word", .str "sequence", .str "either", .str "again"])
  have L2' := L1.kp0 kk
  have k2 := k1.trans kk.any
  obtain ⟨us2, i0, i1, i2, i3⟩ := L2'.ex
  have eN : (if true = true then !inV (.str (tk T s.p)) (kinds.map V.str) else inV (.str (tk T s.p)) (kinds.map V.str)) = !kinds.contains (tk T s.p) := by rw [eIn]; rfl
  rw [eN]
  generalize hH2 : upd H1 p1 (HO.tup [V.str "word", .str "sequence", .str "either", .str "again"]) = H2 at L2' k2 i1 i2 i3 ⊢
  have hbad : ∀ (σ : L2.St), σ[0]? = some (some (.ref a)) → ¬ (kinds.contains (tk T s.p) = true ∧ s.r + 1 ≤ 20 ∧ j ≠ 0) → tCall spFail [] E0 (tCons (tVar 0) tNil) σ H2 Q := by
    intro σ s0 hn
    refine fail H2 ⟨s.p, s.r + 1, s.l⟩ σ s0 k2 L2' ?_
    cases j with
    | zero => rfl
    | succ k' =>
      rw [ruleM, if_neg]
      intro z
      simp only [Bool.and_eq_true, decide_eq_true_eq] at z
      exact hn ⟨z.1, z.2, by omega⟩
  refine ite2 (fun h4 => ?_) (fun h4 => ?_)
  · have h4' : kinds.contains (tk T s.p) = false := by simpa using h4
    exact hbad _ rfl fun z => by rw [h4'] at z; cases z.1
  · have h4' : kinds.contains (tk T s.p) = true := by simpa using h4
    refine ⟨_, rfl, a, _, 3, .int ((s.r : Nat) + 1), rfl, rfl, SqL.of i1, rfl, _, _, rfl, rfl, _, rfl, ite2 (fun h5 => ?_) (fun h5 => ?_)⟩
    · exact hbad _ rfl fun z => by have := of_decide_eq_true h5; omega
    · have h5' : s.r + 1 ≤ 20 := by simp at h5; omega
      refine ⟨_, rfl, _, _, rfl, rfl, _, rfl, ite2 (fun h6 => ?_) (fun h6 => ?_)⟩
      · exact hbad _ rfl fun z => by have := of_decide_eq_true h6; omega
      · have h6' : lev ≤ 8 := by simp at h6; omega
        obtain ⟨k', rfl⟩ : ∃ k', j = k' + 1 := ⟨j - 1, by omega⟩
        have er : ruleM T (k' + 1) s = if tk T (s.p + 1) = "(" then (match bodyM T (ruleM T k') (tk T s.p) ⟨s.p + 2, s.r + 1, s.l⟩ with
            | .error c => .error c
            | .ok (d, s') => if tk T s'.p = ")" then .ok (.tuple [.str (tk T s.p), d], ⟨s'.p + 1, s'.r, s'.l⟩) else .error (cl T s'.p))
          else .error (cl T (s.p + 1)) := by
          rw [ruleM, if_pos (by rw [h4', decide_eq_true h5']; rfl)]
          all_goals rfl
        have hkne := kinds_ne h4'
        -- over the kind
        refine ⟨_, rfl, a, _, 2, .int s.p, rfl, rfl, SqL.of i1, rfl, _, _, rfl, rfl, _, rfl, a, _, 2, 2, rfl, rfl, i1, rfl, ?_⟩
        have L3 := L2'.mv (s' := ⟨s.p + 1, s.r + 1, s.l⟩) i0 i1 i2 i3 (L.ok.last _ L.lt hkne)
        have k3 := k2.upR (List.mem_singleton.mpr rfl) L.chg (.lst [.ref tl, .int n, .int ((s.p : Nat) + 1), .int ((s.r : Nat) + 1), .int s.l])
        replace L3 : RdA (upd H2 a (.lst [.ref tl, .int n, .int ((s.p : Nat) + 1), .int ((s.r : Nat) + 1), .int s.l])) a tl T n ⟨s.p + 1, s.r + 1, s.l⟩ := L3
        obtain ⟨H3, hH3⟩ : ∃ Z : Hp, Z = upd H2 a (HO.lst [.ref tl, .int n, .int ((s.p : Nat) + 1), .int ((s.r : Nat) + 1), .int s.l]) := ⟨_, rfl⟩
        refine gen_H hH3.symm ?_
        rw [← hH3] at L3 k3
        refine ⟨_, rfl, a, tl, T, n, _, rfl, L3, rfl, _, rfl, ite2 (fun h7 => ?_) (fun h7 => ?_)⟩
        · have h7' : tk T (s.p + 1) ≠ "(" := by simpa using h7
          exact fail H3 ⟨s.p + 1, s.r + 1, s.l⟩ _ rfl k3 L3 (by rw [er, if_neg h7'])
        · have h7' : tk T (s.p + 1) = "(" := by simpa using h7
          rw [if_pos h7'] at er
          obtain ⟨us3, j0, j1, j2, j3⟩ := L3.ex
          refine ⟨_, rfl, a, _, 2, .int ((s.p : Nat) + 1), rfl, rfl, SqL.of j1, rfl, _, _, rfl, rfl, Nat.zero_le _, fun qf hq => ⟨(by show 2 ≤ sizeLine; decide), fun pt hpt => ?_⟩⟩
          have kq := (Kp.refl [] H3).new hq (.lst [])
          have kp := kq.new hpt (.tup [.int ((s.p : Nat) + 1 + 1), .ref qf])
          have L4 := L3.kp0 kp
          have k4 := k3.trans kp.any
          obtain ⟨us4, l0, l1, l2, l3⟩ := L4.ex
          have hqa := (L3.ne hq).1
          have hql := (L3.ne hq).2
          have hq0 := k3.fresh hq
          have qpt : qf ≠ pt := ne_of_none upd_same hpt
          refine ⟨pt, _, rfl, SqT.of upd_same, rfl, _, _, rfl, _, rfl, a, _, 2, 2, rfl, rfl, l1, rfl, _, _, rfl, rfl, ?_⟩
          have L5 := L4.mv (s' := ⟨s.p + 2, s.r + 1, s.l⟩) l0 l1 l2 l3 (L.ok.last _ (L.ok.last _ L.lt hkne) (by rw [h7']; decide))
          have k5 := k4.upR (List.mem_singleton.mpr rfl) L.chg (.lst [.ref tl, .int n, .int ((s.p : Nat) + 1 + 1), .int ((s.r : Nat) + 1), .int s.l])
          replace L5 : RdA (upd (upd (upd H3 qf (.lst [])) pt (.tup [.int ((s.p : Nat) + 1 + 1), .ref qf])) a (.lst [.ref tl, .int n, .int ((s.p : Nat) + 1 + 1), .int ((s.r : Nat) + 1), .int s.l])) a tl T n ⟨s.p + 2, s.r + 1, s.l⟩ := L5
          have hq5 : (upd (upd (upd H3 qf (.lst [])) pt (.tup [.int ((s.p : Nat) + 1 + 1), .ref qf])) a (.lst [.ref tl, .int n, .int ((s.p : Nat) + 1 + 1), .int ((s.r : Nat) + 1), .int s.l])) qf = some (.lst []) := by
            rw [upd_ne hqa, upd_ne qpt, upd_same]
          obtain ⟨H5, hH5⟩ : ∃ Z : Hp, Z = upd (upd (upd H3 qf (HO.lst [])) pt (HO.tup [.int ((s.p : Nat) + 1 + 1), .ref qf])) a (HO.lst [.ref tl, .int n, .int ((s.p : Nat) + 1 + 1), .int ((s.r : Nat) + 1), .int s.l]) := ⟨_, rfl⟩
          refine gen_H hH5.symm ?_
          rw [← hH5] at L5 k5 hq5
          dsimp only
          refine seq_Z fun Z hZ => ?_
          -- the end, once the body stands
          have endZ : ∀ (H6 : Hp) (vs : List V) (ds : List PyData) (s6 : PSt) (bd : PyData) (e4 : Option V), Kp [a] H H6 → RdA H6 a tl T n s6 → tk T s6.p = ")" → H6 qf = some (.lst vs) → TDs H6 vs ds → bodyM T (ruleM T k') (tk T s.p) ⟨s.p + 2, s.r + 1, s.l⟩ = .ok (bd, s6) →
              ((tk T s.p = "again" ∧ ds = [bd]) ∨ (tk T s.p ≠ "again" ∧ bd = .tuple ds)) → Z [some (.ref a), some (.int lev), some (.str (tk T s.p)), some (.ref qf), e4] H6 := by
            intro H6 vs ds s6 bd e4 k6 L6 ht hq6 hd6 eb hcase
            rw [hZ]
            rw [eb] at er
            have er' : ruleM T (k' + 1) s = if tk T s6.p = ")" then .ok (.tuple [.str (tk T s.p), bd], ⟨s6.p + 1, s6.r, s6.l⟩) else .error (cl T s6.p) := er
            rw [if_pos ht] at er'
            rw [er'] at q
            obtain ⟨us6, m0, m1, m2, m3⟩ := L6.ex
            refine ⟨_, rfl, a, _, 2, .int s6.p, rfl, rfl, SqL.of m1, rfl, _, _, rfl, rfl, _, rfl, a, _, 2, 2, rfl, rfl, m1, rfl, ?_⟩
            have L7 := L6.mv (s' := ⟨s6.p + 1, s6.r, s6.l⟩) m0 m1 m2 m3 (L6.ok.last _ L6.lt (by rw [ht]; decide))
            have k7 := k6.upR (List.mem_singleton.mpr rfl) L.chg (.lst [.ref tl, .int n, .int ((s6.p : Nat) + 1), .int s6.r, .int s6.l])
            replace L7 : RdA (upd H6 a (.lst [.ref tl, .int n, .int ((s6.p : Nat) + 1), .int s6.r, .int s6.l])) a tl T n ⟨s6.p + 1, s6.r, s6.l⟩ := L7
            have hq7 : upd H6 a (.lst [.ref tl, .int n, .int ((s6.p : Nat) + 1), .int s6.r, .int s6.l]) qf = some (.lst vs) := by rw [upd_ne hqa]; exact hq6
            have hd7 : TDs (upd H6 a (.lst [.ref tl, .int n, .int ((s6.p : Nat) + 1), .int s6.r, .int s6.l])) vs ds := hd6.tu fun b xs e => by rw [upd_ne (ne_of e m1 (by simp))]; exact e
            obtain ⟨H7, hH7⟩ : ∃ Z : Hp, Z = upd H6 a (HO.lst [.ref tl, .int n, .int ((s6.p : Nat) + 1), .int s6.r, .int s6.l]) := ⟨_, rfl⟩
            refine gen_H hH7.symm ?_
            rw [← hH7] at L7 k7 hq7 hd7
            refine ⟨_, rfl, _, rfl, rfl, _, rfl, ite2 (fun h8 => ?_) (fun h8 => ?_)⟩
            · have h8' : tk T s.p = "again" := by simpa using h8
              rcases hcase with ⟨_, rfl⟩ | ⟨z, _⟩
              · cases hd7 with
                | cons tv tr =>
                  cases tr
                  refine ⟨_, rfl, qf, _, 0, _, rfl, rfl, SqL.of hq7, rfl, (by show 2 ≤ sizeLine; decide), fun p9 hp9 => ?_⟩
                  exact q _ _ (k7.new hp9 _) (L7.kp0 ((Kp.refl [] H7).new hp9 _)) (TD.tup upd_same (.cons (.str _) (TDs.one (tv.tu (Tu.new hp9)))))
              · exact absurd h8' z
            · have h8' : tk T s.p ≠ "again" := by simpa using h8
              rcases hcase with ⟨z, _⟩ | ⟨_, rfl⟩
              · exact absurd z h8'
              · refine ⟨_, rfl, qf, _, rfl, .inl ⟨SqL.of hq7, fun p8 hp8 => ⟨(by show 2 ≤ sizeLine; decide), fun p9 hp9 => ?_⟩⟩⟩
                have kk8 := ((Kp.refl [] H7).new hp8 (.tup vs))
                have kk9 := kk8.new hp9 (.tup [.str (tk T s.p), .ref p8])
                exact q _ _ (k7.trans kk9.any) (L7.kp0 kk9) (TD.tup upd_same (.cons (.str _) (TDs.one (TD.tup (by rw [upd_ne (ne_of_none upd_same hp9), upd_same]) (hd7.tu kk9.tu)))))
          have failB : ∀ (H6 : Hp) (s6 : PSt) (σ : L2.St) (c : Nat), σ[0]? = some (some (.ref a)) → Kp [a] H H6 → RdA H6 a tl T n s6 → c = cl T s6.p → bodyM T (ruleM T k') (tk T s.p) ⟨s.p + 2, s.r + 1, s.l⟩ = .error c → tCall spFail [] E0 (tCons (tVar 0) tNil) σ H6 Q := by
            intro H6 s6 σ c s0 k6 L6 hc eb
            rw [eb] at er
            exact fail H6 s6 σ s0 k6 L6 (by rw [← hc]; exact er)
          have probB' : ∀ (H6 : Hp) (v : V) (c : Nat), Kp [a] H H6 → TD H6 v (probD n c) → bodyM T (ruleM T k') (tk T s.p) ⟨s.p + 2, s.r + 1, s.l⟩ = .error c → Q v H6 := by
            intro H6 v c k6 t6 eb
            rw [eb] at er
            have er' : ruleM T (k' + 1) s = .error c := er
            rw [er'] at q
            exact q H6 v k6 t6
          have eqB : ∀ (c : Str), (decide (V.str (tk T s.p) = V.str c) = true) = (tk T s.p = c) := fun c => by
            rw [decide_eq_true_eq]
            exact propext ⟨fun z => by injection z, fun z => by rw [z]⟩
          by_cases hkw : tk T s.p = "word"
          · have kna : tk T s.p ≠ "again" := by rw [hkw]; decide
            have eb : bodyM T (ruleM T k') (tk T s.p) ⟨s.p + 2, s.r + 1, s.l⟩ = (match lettersM T T.length [] ⟨s.p + 2, s.r + 1, s.l⟩ with
              | .error c => .error c
              | .ok (ls, s') => .ok (tupS ls, s')) := by
              unfold bodyM
              rw [if_pos hkw]
              all_goals rfl
            generalize hR : lettersM T T.length [] ⟨s.p + 2, s.r + 1, s.l⟩ = R at eb
            refine ⟨fun m σ H6 => ∃ (s6 : PSt) (ls : List Str) (e4 : Option V), σ = [some (.ref a), some (.int lev), some (.str (tk T s.p)), some (.ref qf), e4] ∧ Kp [a] H H6 ∧ RdA H6 a tl T n s6 ∧ H6 qf = some (.lst (ls.map V.str)) ∧ ls.length ≤ s6.p ∧ T.length ≤ s6.p + m ∧ lettersM T m ls s6 = R,
              ⟨T.length, ⟨s.p + 2, s.r + 1, s.l⟩, [], none, rfl, k5, L5, hq5, Nat.zero_le _, by show T.length ≤ s.p + 2 + T.length; omega, hR⟩, ?_⟩
            rintro m σ H6 ⟨s6, ls, e4, rfl, k6, L6, hq6, hle, hfu, he⟩
            have lt6 := L6.lt
            obtain ⟨m', rfl⟩ : ∃ m', m = m' + 1 := ⟨m - 1, by omega⟩
            unfold lettersM at he
            refine ⟨_, rfl, a, tl, T, n, s6, rfl, L6, rfl, _, rfl, ite2 (fun h8 => ?_) (fun h8 => ?_)⟩
            · have h8' : tk T s6.p ≠ ")" := by simpa using h8
              rw [if_neg h8'] at he
              refine ⟨_, fun σ' H' z => z, ?_⟩
              refine ⟨_, rfl, rfl, _, rfl, ite2 (fun h9 => absurd (by rw [eqB] at h9; exact h9) kna) (fun h9 => ?_)⟩
              dsimp only [tNext]
              rw [if_neg Bool.false_ne_true]
              refine seq_Z fun Z2 hZ2 => ?_
              have cont : ∀ H7, Kp [] H6 H7 → Z2 [some (.ref a), some (.int lev), some (.str (tk T s.p)), some (.ref qf), e4] H7 := by
                intro H7 k7
                rw [hZ2]
                have L7 := L6.kp0 k7
                have hq7 := k7.at0 hq6
                have k07 := k6.trans k7.any
                refine ⟨_, rfl, rfl, _, rfl, ite2 (fun h10 => ?_) (fun h10 => absurd hkw (by rw [eqB] at h10; exact h10))⟩
                refine ⟨_, rfl, a, tl, T, n, s6, rfl, L7, ?_⟩
                unfold letterR
                by_cases hg : (letterM (tk T s6.p) && decide (s6.l + 1 ≤ 12)) = true
                · rw [if_pos hg] at he ⊢
                  intro H8 v k8 L8 t8
                  cases t8
                  have hq8 := k8.at_ hq7 (by simpa using hqa)
                  refine ⟨_, rfl, _, _, rfl, .str _, .inl ⟨_, rfl⟩, fun H9 k9 => ⟨_, rfl, ?_⟩⟩
                  have hq9 := k9.at0 hq8
                  refine ⟨_, rfl, .inl ⟨rfl, _, SqL.of hq9⟩, _, rfl, qf, _, _, rfl, rfl, hq9, ?_, m', Nat.lt_succ_self _, ⟨s6.p + 1, s6.r, s6.l + 1⟩, ls ++ [tk T s6.p], _, rfl, ((k07.trans k8).trans k9.any).upN hq0 _, (L8.kp0 k9).other hqa hql hq9, by rw [upd_same, List.map_append]; rfl, by rw [List.length_append]; show ls.length + 1 ≤ s6.p + 1; omega, by show T.length ≤ s6.p + 1 + m'; omega, he⟩
                  rw [List.length_map, sizeLine_eq]
                  have := L6.ok.len
                  omega
                · rw [if_neg hg] at he ⊢
                  intro H8 v k8 t8
                  refine ⟨_, rfl, _, _, rfl, t8, told_prob _ _, fun H9 k9 => ⟨_, rfl, ?_⟩⟩
                  rw [prob_prob]
                  refine ⟨_, rfl, probB' H9 v _ ((k07.trans k8).trans k9.any) (t8.tu k9.tu) ?_⟩
                  rw [eb, ← he]
              refine ⟨_, rfl, Nat.zero_le _, fun p hp => ⟨qf, p, ls.map V.str, rfl, rfl, SqL.of (by rw [upd_ne (ne_of_none hq6 hp)]; exact hq6), SqL.of upd_same, _, rfl, ite2 (fun h10 => ?_) (fun h10 => ?_)⟩⟩
              · refine ⟨_, rfl, (by show 2 ≤ sizeLine; decide), fun p2 hp2 => ⟨p2, (["sequence", "either"] : List Str).map V.str, rfl, .inr (SqT.of upd_same), rfl, rfl, _, rfl, ?_⟩⟩
                have e2 : (if false = true then !inV (.str (tk T s.p)) ((["sequence", "either"] : List Str).map V.str) else inV (.str (tk T s.p)) ((["sequence", "either"] : List Str).map V.str)) = false := by
                  rw [if_neg Bool.false_ne_true, inV_strs, hkw]
                  decide
                rw [e2]
                exact cont _ (((Kp.refl [] H6).new hp _).new hp2 _)
              · exact cont _ ((Kp.refl [] H6).new hp _)
            · have h8' : tk T s6.p = ")" := by simpa using h8
              rw [if_pos h8'] at he
              refine ⟨_, rfl, rfl, _, rfl, ite2 (fun h9 => absurd (by rw [eqB] at h9; exact h9) kna) (fun h9 => ?_)⟩
              rw [← he] at eb
              exact endZ H6 _ (ls.map PyData.str) s6 _ e4 k6 L6 h8' hq6 (TDs.strs ls) eb (.inr ⟨kna, rfl⟩)
          · by_cases hka : tk T s.p = "again"
            · have eb : bodyM T (ruleM T k') (tk T s.p) ⟨s.p + 2, s.r + 1, s.l⟩ = ruleM T k' ⟨s.p + 2, s.r + 1, s.l⟩ := by
                unfold bodyM
                rw [if_neg hkw, if_pos hka]
              refine ⟨fun m σ H6 => ∃ (s6 : PSt) (vs : List V) (ds : List PyData) (e4 : Option V), σ = [some (.ref a), some (.int lev), some (.str (tk T s.p)), some (.ref qf), e4] ∧ Kp [a] H H6 ∧ RdA H6 a tl T n s6 ∧ H6 qf = some (.lst vs) ∧ TDs H6 vs ds ∧ ((ds = [] ∧ s6 = ⟨s.p + 2, s.r + 1, s.l⟩ ∧ m = 1) ∨ ∃ d, ds = [d] ∧ ruleM T k' ⟨s.p + 2, s.r + 1, s.l⟩ = .ok (d, s6) ∧ m = 0),
                ⟨1, ⟨s.p + 2, s.r + 1, s.l⟩, [], [], none, rfl, k5, L5, hq5, .nil, .inl ⟨rfl, rfl, rfl⟩⟩, ?_⟩
              rintro m σ H6 ⟨s6, vs, ds, e4, rfl, k6, L6, hq6, hd6, hcase⟩
              have hae : decide (V.str (tk T s.p) = V.str "again") = true := by rw [eqB]; exact hka
              rcases hcase with ⟨rfl, rfl, rfl⟩ | ⟨d, rfl, erd, rfl⟩
              · cases hd6
                -- the one part is read
                have body : ∀ H7, Kp [] H6 H7 → ∀ (D : Ends), D.rt = Q → (D.nx = fun σ' H' => ∃ m', m' < 1 ∧ ∃ (s6 : PSt) (vs : List V) (ds : List PyData) (e4 : Option V), σ' = [some (.ref a), some (.int lev), some (.str (tk T s.p)), some (.ref qf), e4] ∧ Kp [a] H H' ∧ RdA H' a tl T n s6 ∧ H' qf = some (.lst vs) ∧ TDs H' vs ds ∧ ((ds = [] ∧ s6 = ⟨s.p + 2, s.r + 1, s.l⟩ ∧ m' = 1) ∨ ∃ d, ds = [d] ∧ ruleM T k' ⟨s.p + 2, s.r + 1, s.l⟩ = .ok (d, s6) ∧ m' = 0)) →
                    tSeq (tAsg (tIf (tTest (tOp rEq (tVar 2) (tC (.str "word")))) (tCall spReadLetter [] E0 (tCons (tVar 0) tNil)) (tCall (spLR (k' + 1)) [] E0 (tCons (tVar 0) (tCons (tOp (rI0 fun i j => .int (i + j)) (tVar 1) (tC (.int 1))) tNil)))) (gName 4))
                      (tSeq (tIfS (tB (tCall spIsProb [] E0 (tCons (tVar 4) tNil))) (tRet (tVar 4)) tNext) (tDrop (tBM K "list" rAppend (tVar 3) (tCons (tVar 4) tNil)))) D [some (.ref a), some (.int lev), some (.str (tk T s.p)), some (.ref qf), e4] H7 := by
                  intro H7 k7 D hrt hnx
                  have L7 := L6.kp0 k7
                  have hq7 := k7.at0 hq6
                  have k07 := k6.trans k7.any
                  refine ⟨_, rfl, rfl, _, rfl, ite2 (fun h10 => absurd (by rw [eqB] at h10; exact h10) hkw) (fun h10 => ?_)⟩
                  refine ⟨_, rfl, _, rfl, _, _, rfl, rfl, a, tl, T, n, ⟨s.p + 2, s.r + 1, s.l⟩, lev + 1, rfl, L7, by omega, by omega, ?_⟩
                  cases erd : ruleM T k' ⟨s.p + 2, s.r + 1, s.l⟩ with
                  | error c =>
                    intro H8 v k8 t8
                    refine ⟨_, rfl, _, _, rfl, t8, told_prob _ _, fun H9 k9 => ⟨_, rfl, ?_⟩⟩
                    rw [prob_prob]
                    refine ⟨_, rfl, ?_⟩
                    dsimp only
                    rw [hrt]
                    exact probB' H9 v _ ((k07.trans k8).trans k9.any) (t8.tu k9.tu) (by rw [eb, erd])
                  | ok z =>
                    obtain ⟨d, s8⟩ := z
                    obtain ⟨td, tp⟩ := ruleM_told erd
                    intro H8 v k8 L8 t8
                    have hq8 := k8.at_ hq7 (by simpa using hqa)
                    refine ⟨_, rfl, _, _, rfl, t8, td, fun H9 k9 => ⟨_, rfl, ?_⟩⟩
                    rw [tp]
                    have hq9 := k9.at0 hq8
                    refine ⟨_, rfl, .inl ⟨rfl, _, SqL.of hq9⟩, _, rfl, qf, _, _, rfl, rfl, hq9, by show 0 < sizeLine; decide, ?_⟩
                    dsimp only
                    rw [hnx]
                    exact ⟨0, Nat.zero_lt_one, s8, [v], [d], some v, rfl, ((k07.trans k8).trans k9.any).upN hq0 _, (L8.kp0 k9).other hqa hql hq9, upd_same, (TDs.one ((t8.tu k9.tu))).tu (Tu.lst hq9), .inr ⟨d, rfl, erd, rfl⟩⟩
                have turn : ∀ H7, Kp [] H6 H7 → ∃ N : L2.St → Hp → Prop, (∀ σ' H', N σ' H' → ∃ m', m' < 1 ∧ ∃ (s6 : PSt) (vs : List V) (ds : List PyData) (e4 : Option V), σ' = [some (.ref a), some (.int lev), some (.str (tk T s.p)), some (.ref qf), e4] ∧ Kp [a] H H' ∧ RdA H' a tl T n s6 ∧ H' qf = some (.lst vs) ∧ TDs H' vs ds ∧ ((ds = [] ∧ s6 = ⟨s.p + 2, s.r + 1, s.l⟩ ∧ m' = 1) ∨ ∃ d, ds = [d] ∧ ruleM T k' ⟨s.p + 2, s.r + 1, s.l⟩ = .ok (d, s6) ∧ m' = 0)) ∧
                    tSeq (tIfS (tAnd (tTest (tOp rEq (tVar 2) (tC (.str "again")))) (tTest (tOp (rNeNil K) (tVar 3) (tLst tNil)))) (tRet (tCall spFail [] E0 (tCons (tVar 0) tNil))) tNext)
                      (tSeq (tIfS (tAnd (tTest (tOp (rNeNil K) (tVar 3) (tLst tNil))) (tTest (tOp (rIn K false) (tVar 2) (tTup (tCons (tC (.str "sequence")) (tCons (tC (.str "either")) tNil))))))
                          (tSeq (tIfS (tTest (tOp rNe (tCall spNext [] E0 (tCons (tVar 0) tNil)) (tC (.str ",")))) (tRet (tCall spFail [] E0 (tCons (tVar 0) tNil))) tNext) (tAsg (tOp (rI0 fun i j => .int (i + j)) (tOp (rIxL K) (tVar 0) (tC (.int 2))) (tC (.int 1))) (gSub (tVar 0) (tC (.int 2)) rSetL))) tNext)
                        (tSeq (tAsg (tIf (tTest (tOp rEq (tVar 2) (tC (.str "word")))) (tCall spReadLetter [] E0 (tCons (tVar 0) tNil)) (tCall (spLR (k' + 1)) [] E0 (tCons (tVar 0) (tCons (tOp (rI0 fun i j => .int (i + j)) (tVar 1) (tC (.int 1))) tNil)))) (gName 4))
                          (tSeq (tIfS (tB (tCall spIsProb [] E0 (tCons (tVar 4) tNil))) (tRet (tVar 4)) tNext) (tDrop (tBM K "list" rAppend (tVar 3) (tCons (tVar 4) tNil))))))
                      { nx := N, rt := Q, bk := Z, ct := N } [some (.ref a), some (.int lev), some (.str (tk T s.p)), some (.ref qf), e4] H7 := by
                  intro H7 k7
                  refine ⟨_, fun σ' H' z => z, ?_⟩
                  have hq7 := k7.at0 hq6
                  refine ⟨_, rfl, rfl, _, rfl, ?_⟩
                  refine ite2 (fun _ => ?_) (fun hz => absurd hae hz)
                  refine ⟨_, rfl, Nat.zero_le _, fun p hp => ⟨qf, p, [], rfl, rfl, SqL.of (by rw [upd_ne (ne_of_none hq7 hp)]; exact hq7), SqL.of upd_same, _, rfl, ?_⟩⟩
                  have hq8 : upd H7 p (.lst []) qf = some (.lst []) := by rw [upd_ne (ne_of_none hq7 hp)]; exact hq7
                  refine ⟨_, rfl, Nat.zero_le _, fun p2 hp2 => ⟨qf, p2, [], rfl, rfl, SqL.of (by rw [upd_ne (ne_of_none hq8 hp2)]; exact hq8), SqL.of upd_same, _, rfl, ?_⟩⟩
                  exact body _ ((k7.new hp _).new hp2 _) _ rfl rfl
                refine ⟨_, rfl, a, tl, T, n, _, rfl, L6, rfl, _, rfl, ite2 (fun h8 => ?_) (fun h8 => ?_)⟩
                · exact turn H6 (Kp.refl [] H6)
                · refine ⟨_, rfl, rfl, _, rfl, ?_⟩
                  refine ite2 (fun _ => ?_) (fun hz => absurd hae hz)
                  refine ⟨_, rfl, Nat.zero_le _, fun p hp => ⟨qf, p, [], rfl, rfl, SqL.of (by rw [upd_ne (ne_of_none hq6 hp)]; exact hq6), SqL.of upd_same, _, rfl, ?_⟩⟩
                  exact turn _ ((Kp.refl [] H6).new hp _)
              · refine ⟨_, rfl, a, tl, T, n, _, rfl, L6, rfl, _, rfl, ite2 (fun h8 => ?_) (fun h8 => ?_)⟩
                · have h8' : tk T s6.p ≠ ")" := by simpa using h8
                  refine ⟨fun _ _ => False, fun σ' H' z => z.elim, ?_⟩
                  refine ⟨_, rfl, rfl, _, rfl, ?_⟩
                  refine ite2 (fun _ => ?_) (fun hz => absurd hae hz)
                  cases hd6 with
                  | @cons v vr _ _ tv tr =>
                    cases tr
                    refine ⟨_, rfl, Nat.zero_le _, fun p hp => ⟨qf, p, [v], rfl, rfl, SqL.of (by rw [upd_ne (ne_of_none hq6 hp)]; exact hq6), SqL.of upd_same, _, rfl, ?_⟩⟩
                    have kk := (Kp.refl [] H6).new hp (.lst [])
                    rw [eb, erd] at er
                    have er' : ruleM T (k' + 1) s = if tk T s6.p = ")" then .ok (.tuple [.str (tk T s.p), d], ⟨s6.p + 1, s6.r, s6.l⟩) else .error (cl T s6.p) := er
                    rw [if_neg h8'] at er'
                    exact fail _ s6 _ rfl (k6.trans kk.any) (L6.kp0 kk) er'
                · have h8' : tk T s6.p = ")" := by simpa using h8
                  refine ⟨_, rfl, rfl, _, rfl, ?_⟩
                  refine ite2 (fun _ => ?_) (fun hz => absurd hae hz)
                  cases hd6 with
                  | @cons v vr _ _ tv tr =>
                    cases tr
                    refine ⟨_, rfl, Nat.zero_le _, fun p hp => ⟨qf, p, [v], rfl, rfl, SqL.of (by rw [upd_ne (ne_of_none hq6 hp)]; exact hq6), SqL.of upd_same, _, rfl, ?_⟩⟩
                    have kk := (Kp.refl [] H6).new hp (.lst [])
                    exact endZ _ [v] [d] s6 d e4 (k6.trans kk.any) (L6.kp0 kk) h8' (by rw [upd_ne (ne_of_none hq6 hp)]; exact hq6) (TDs.one (tv.tu (Tu.new hp))) (by rw [eb, erd]) (.inl ⟨hka, rfl⟩)
            · have eb : bodyM T (ruleM T k') (tk T s.p) ⟨s.p + 2, s.r + 1, s.l⟩ = (match partsM T (ruleM T k') T.length [] ⟨s.p + 2, s.r + 1, s.l⟩ with
                | .error c => .error c
                | .ok (ds, s') => .ok (.tuple ds, s')) := by
                unfold bodyM
                rw [if_neg hkw, if_neg hka]
                all_goals rfl
              have hkse : (["sequence", "either"] : List Str).contains (tk T s.p) = true := by
                have hm : tk T s.p ∈ kinds := by simpa using h4'
                simp only [kinds, List.mem_cons, List.not_mem_nil, or_false] at hm
                rcases hm with z | z | z | z
                · exact absurd z hkw
                · rw [z]; decide
                · rw [z]; decide
                · exact absurd z hka
              generalize hR : partsM T (ruleM T k') T.length [] ⟨s.p + 2, s.r + 1, s.l⟩ = R at eb
              refine ⟨fun m σ H6 => ∃ (s6 : PSt) (vs : List V) (ds : List PyData) (e4 : Option V), σ = [some (.ref a), some (.int lev), some (.str (tk T s.p)), some (.ref qf), e4] ∧ Kp [a] H H6 ∧ RdA H6 a tl T n s6 ∧ H6 qf = some (.lst vs) ∧ TDs H6 vs ds ∧ vs.length ≤ s6.p ∧ T.length ≤ s6.p + m ∧ partsM T (ruleM T k') m ds s6 = R,
                ⟨T.length, ⟨s.p + 2, s.r + 1, s.l⟩, [], [], none, rfl, k5, L5, hq5, .nil, Nat.zero_le _, by show T.length ≤ s.p + 2 + T.length; omega, hR⟩, ?_⟩
              rintro m σ H6 ⟨s6, vs, ds, e4, rfl, k6, L6, hq6, hd6, hle, hfu, he⟩
              have lt6 := L6.lt
              obtain ⟨m', rfl⟩ : ∃ m', m = m' + 1 := ⟨m - 1, by omega⟩
              unfold partsM at he
              refine ⟨_, rfl, a, tl, T, n, s6, rfl, L6, rfl, _, rfl, ite2 (fun h8 => ?_) (fun h8 => ?_)⟩
              · have h8' : tk T s6.p ≠ ")" := by simpa using h8
                rw [if_neg h8'] at he
                refine ⟨_, fun σ' H' z => z, ?_⟩
                refine ⟨_, rfl, rfl, _, rfl, ite2 (fun h9 => absurd (by rw [eqB] at h9; exact h9) hka) (fun h9 => ?_)⟩
                dsimp only [tNext]
                rw [if_neg Bool.false_ne_true]
                refine seq_Z fun Z2 hZ2 => ?_
                have cont : ∀ (H7 : Hp) (s7 : PSt), s6.p ≤ s7.p → Kp [a] H H7 → RdA H7 a tl T n s7 → H7 qf = some (.lst vs) → TDs H7 vs ds → (match ruleM T k' s7 with
                    | .error c => (.error c : Res (List PyData))
                    | .ok (d, s') => partsM T (ruleM T k') m' (ds ++ [d]) s') = R → Z2 [some (.ref a), some (.int lev), some (.str (tk T s.p)), some (.ref qf), e4] H7 := by
                  intro H7 s7 hle7 k7 L7 hq7 hd7 e7
                  rw [hZ2]
                  refine ⟨_, rfl, rfl, _, rfl, ite2 (fun h10 => absurd (by rw [eqB] at h10; exact h10) hkw) (fun h10 => ?_)⟩
                  refine ⟨_, rfl, _, rfl, _, _, rfl, rfl, a, tl, T, n, s7, lev + 1, rfl, L7, by omega, by omega, ?_⟩
                  cases erd : ruleM T k' s7 with
                  | error c =>
                    rw [erd] at e7
                    intro H8 v k8 t8
                    refine ⟨_, rfl, _, _, rfl, t8, told_prob _ _, fun H9 k9 => ⟨_, rfl, ?_⟩⟩
                    rw [prob_prob]
                    refine ⟨_, rfl, probB' H9 v _ ((k7.trans k8).trans k9.any) (t8.tu k9.tu) ?_⟩
                    rw [eb, ← e7]
                  | ok z =>
                    obtain ⟨d, s8⟩ := z
                    obtain ⟨td, tp⟩ := ruleM_told erd
                    have adv := ruleM_adv erd
                    rw [erd] at e7
                    replace e7 : partsM T (ruleM T k') m' (ds ++ [d]) s8 = R := e7
                    intro H8 v k8 L8 t8
                    have hq8 := k8.at_ hq7 (by simpa using hqa)
                    refine ⟨_, rfl, _, _, rfl, t8, td, fun H9 k9 => ⟨_, rfl, ?_⟩⟩
                    rw [tp]
                    have hq9 := k9.at0 hq8
                    refine ⟨_, rfl, .inl ⟨rfl, _, SqL.of hq9⟩, _, rfl, qf, _, _, rfl, rfl, hq9, ?_, m', Nat.lt_succ_self _, s8, vs ++ [v], ds ++ [d], some v, rfl, ((k7.trans k8).trans k9.any).upN hq0 _, (L8.kp0 k9).other hqa hql hq9, upd_same, ((((hd7.tu k8.tu).app (TDs.one t8)).tu k9.tu)).tu (Tu.lst hq9), ?_, by omega, e7⟩
                    · rw [sizeLine_eq]
                      have := L6.ok.len
                      omega
                    · rw [List.length_append]
                      show vs.length + 1 ≤ s8.p
                      omega
                refine ⟨_, rfl, Nat.zero_le _, fun p hp => ⟨qf, p, vs, rfl, rfl, SqL.of (by rw [upd_ne (ne_of_none hq6 hp)]; exact hq6), SqL.of upd_same, _, rfl, ite2 (fun h10 => ?_) (fun h10 => ?_)⟩⟩
                · have hne : ds ≠ [] := fun z => by
                    rw [nil_iff hd6, decide_eq_true z] at h10
                    cases h10
                  rw [if_neg hne] at he
                  have kp1 := (Kp.refl [] H6).new hp (.lst [])
                  refine ⟨_, rfl, (by show 2 ≤ sizeLine; decide), fun p2 hp2 => ⟨p2, (["sequence", "either"] : List Str).map V.str, rfl, .inr (SqT.of upd_same), rfl, rfl, _, rfl, ?_⟩⟩
                  have e2 : (if false = true then !inV (.str (tk T s.p)) ((["sequence", "either"] : List Str).map V.str) else inV (.str (tk T s.p)) ((["sequence", "either"] : List Str).map V.str)) = true := by
                    rw [if_neg Bool.false_ne_true, inV_strs, hkse]
                  rw [e2]
                  have kp2 := kp1.new hp2 (.tup [V.str "sequence", .str "either"])
                  have L7 := L6.kp0 kp2
                  have k7 := k6.trans kp2.any
                  have hq7 := kp2.at0 hq6
                  have hd7 := hd6.tu kp2.tu
                  refine ⟨_, rfl, a, tl, T, n, s6, rfl, L7, rfl, _, rfl, ite2 (fun h11 => ?_) (fun h11 => ?_)⟩
                  · have h11' : tk T s6.p ≠ "," := by simpa using h11
                    rw [if_neg h11'] at he
                    exact failB _ s6 _ (cl T s6.p) rfl k7 L7 rfl (by rw [eb, ← he])
                  · have h11' : tk T s6.p = "," := by simpa using h11
                    rw [if_pos h11'] at he
                    obtain ⟨us7, m0, m1, m2, m3⟩ := L7.ex
                    refine ⟨_, rfl, a, _, 2, .int s6.p, rfl, rfl, SqL.of m1, rfl, _, _, rfl, rfl, _, rfl, a, _, 2, 2, rfl, rfl, m1, rfl, ?_⟩
                    refine cont _ ⟨s6.p + 1, s6.r, s6.l⟩ (Nat.le_succ _) (k7.upR (List.mem_singleton.mpr rfl) L.chg _) (L7.mv (s' := ⟨s6.p + 1, s6.r, s6.l⟩) m0 m1 m2 m3 (L6.ok.last _ L6.lt (by rw [h11']; decide))) (by rw [upd_ne hqa]; exact hq7) (hd7.tu fun b xs e => by rw [upd_ne (ne_of e m1 (by simp))]; exact e) he
                · have hnil : ds = [] := by
                    rw [nil_iff hd6] at h10
                    simpa using h10
                  rw [if_pos hnil] at he
                  have kp1 := (Kp.refl [] H6).new hp (.lst [])
                  exact cont _ s6 (Nat.le_refl _) (k6.trans kp1.any) (L6.kp0 kp1) (kp1.at0 hq6) (hd6.tu kp1.tu) he
              · have h8' : tk T s6.p = ")" := by simpa using h8
                rw [if_pos h8'] at he
                refine ⟨_, rfl, rfl, _, rfl, ite2 (fun h9 => absurd (by rw [eqB] at h9; exact h9) hka) (fun h9 => ?_)⟩
                rw [← he] at eb
                exact endZ H6 _ ds s6 _ e4 k6 L6 h8' hq6 hd6 eb (.inr ⟨hka, rfl⟩)
/-- at every level -/
theorem lrules_all {P : Program} {w : World} {K : PySem.W.Frag} {mg : Str → Option Value} {base : Heap} {C S f : Addr} {fd : FuncData} (g : G65 K mg C S) (F : Fn K "_law_read_rule" s_law_read_rule f fd) (gF : mg "_law_read_rule" = some (.ref f))
    (c_law_next : Cal P w K mg base CX0 1 "_law_next" p_law_next spNext) (c_law_fail : Cal P w K mg base CX0 1 "_law_fail" p_law_fail spFail) (c_law_is_problem : Cal P w K mg base CX0 1 "_law_is_problem" p_law_is_problem spIsProb) (c_law_read_letter : Cal P w K mg base CX0 2 "_law_read_letter" p_law_read_letter spReadLetter) :
    ∀ j : Nat, Cal P w K mg base CX0 (3 + j) "_law_read_rule" p_law_read_rule (spLRule j)
  | 0 => ok_law_read_rule (k := 2) (j := 0) (by decide) g F gF c_law_next c_law_fail c_law_is_problem c_law_read_letter ⟨f, fd, ⟨fun _ _ _ _ h => h.elim, fun _ _ _ _ _ _ _ _ _ _ _ _ _ h => h.elim⟩, gF, F.kp, F.bindsN (fun _ _ _ _ _ _ us hl => match us, hl with | [_, _], _ => rfl)⟩
  | j + 1 => ok_law_read_rule (k := 3 + j) (j := j + 1) (by omega) g F gF c_law_next c_law_fail c_law_is_problem c_law_read_letter (lrules_all g F gF c_law_next c_law_fail c_law_is_problem c_law_read_letter j)
end T65
end
section
/-! W19: the law's read_some. -/
namespace T65
open PySem PySem.Spec PyProof.Rows L2
def outN (n : Nat) (r : Except Nat PyData) : PyData := match r with
  | .ok d => d
  | .error c => probD n c
def wordR (T : TkL) : Except Nat PyData := match wordM T T.length [] 0 with
  | .error c => .error c
  | .ok ls => .ok (tupS ls)
def posR (T : TkL) : Except Nat PyData := match posM T T.length [] 0 with
  | .error c => .error c
  | .ok ns => .ok (tupI ns)
def spSome : Sp := fun vs H Q _ => ∃ (a tl : Addr) (T : TkL) (n : Nat) (wd : Bool), vs = [.ref a, if wd = true then .non else .int 30] ∧ RdA H a tl T n ⟨0, 0, 0⟩ ∧
  ∀ (H' : Hp) (v : V), Kp [a] H H' → TD H' v (outN n (if wd = true then wordR T else posR T)) → Q v H'
theorem ok_law_read_some {P : Program} {w : World} {K : PySem.W.Frag} {mg : Str → Option Value} {base : Heap} {C S f : Addr} {fd : FuncData} (g : G65 K mg C S) (F : Fn K "_law_read_some" s_law_read_some f fd) (gF : mg "_law_read_some" = some (.ref f))
    (c_law_next : Cal P w K mg base CX0 1 "_law_next" p_law_next spNext) (c_law_fail : Cal P w K mg base CX0 1 "_law_fail" p_law_fail spFail) (c_law_is_letter : Cal P w K mg base CX0 1 "_law_is_letter" p_law_is_letter spLetter) (c_law_integer_in : Cal P w K mg base CX0 1 "_law_integer_in" p_law_integer_in spFigs) :
    Cal P w K mg base CX0 2 "_law_read_some" p_law_read_some spSome := by
  refine cal_of F gF sc_law_read_some (fun vs H Q E h => by obtain ⟨a, tl, T, n, wd, rfl, _⟩ := h; rfl) (fun cdv A outer s H vs Q E hr h => ⟨_,
      (pss_cons (ps_set (i := 2) sc_law_read_some.nd rfl (by first | exact Or.inl rfl | exact Or.inr rfl) (pe_lst pa_nil))
      (pss_cons (ps_while (passes_of rfl) (pt_cmpR op_ne (pe_cal c_law_next hr pass0 (pa_cons (pv 0) pa_nil)) pe_str (nomark _))
        (pss_cons (ps_set (i := 3) sc_law_read_some.nd rfl (by first | exact Or.inl rfl | exact Or.inr rfl) (pe_cal c_law_next hr pass0 (pa_cons (pv 0) pa_nil)))
        (pss_cons (ps_if (PW.pt (pw_and (pt_cmpR op_isN (pv 1) pe_non (nomark _)) (pw_and1 (PW.pt (pw_or (pt_not (pt_val (pe_cal c_law_is_letter hr pass0 (pa_cons (pv 3) pa_nil)))) (pw_or1 (pt_cmpR op_eq (pe_callB call_len rfl g.len rfl (pa_cons (pv 2) pa_nil)) pe_int (nomark _))))))))
          (pss_one (ps_ret (pe_cal c_law_fail hr pass0 (pa_cons (pv 0) pa_nil))))
          pss_nil)
        (pss_cons (ps_if (PW.pt (pw_and (pt_cmpR op_notN (pv 1) pe_non (nomark _)) (pw_and1 (pt_cmpR op_isN (pe_cal c_law_integer_in hr pass0 (pa_cons (pv 3) (pa_cons (pv 1) pa_nil))) pe_non (nomark _)))))
          (pss_one (ps_ret (pe_cal c_law_fail hr pass0 (pa_cons (pv 0) pa_nil))))
          pss_nil)
        (pss_cons (ps_expr (pe_bm PySem.F.plainAttrs_list PySem.F.slot_list_append PySem.F.type_list_append mt_append (pv 2) (pa_cons (pe_ifExp (pt_cmpR op_isN (pv 1) pe_non (nomark _)) (pv 3) (pe_callTy call_int_str rfl g.int rfl (pa_cons (pv 3) pa_nil))) pa_nil)))
        (pss_one (ps_asg (pe_op op_add (pe_ix (r := rIxL K) ix_list (pv 0) pe_int (fun _ _ => rfl)) pe_int) (pg_sub (pv 0) pe_int set_list))))))))
      (pss_one (ps_ret (pe_callTy call_tuple_of rfl g.tuple rfl (pa_cons (pv 2) pa_nil)))))), ?_⟩) (fun _ _ _ _ _ _ us hl => match us, hl with | [_, _], _ => rfl)
  obtain ⟨a, tl, T, n, wd, rfl, L, q⟩ := h
  refine ⟨Nat.zero_le _, fun qf hq => ?_⟩
  obtain ⟨hqa, hql⟩ := L.ne hq
  have k0 := (Kp.refl [a] H).new hq (.lst [])
  have L0 := L.kp0 ((Kp.refl [] H).new hq (.lst []))
  cases wd with
  | true =>
    have q' : ∀ R, wordM T T.length [] 0 = R → ∀ (H' : Hp) (v : V), Kp [a] H H' → TD H' v (outN n (match R with
      | .error c => .error c
      | .ok ls => .ok (tupS ls))) → Q v H' := fun R e H' v k t => by
      subst e
      exact q H' v k t
    generalize hR : wordM T T.length [] 0 = R
    replace q' := q' R hR
    refine ⟨fun m σ H1 => ∃ (s1 : PSt) (ls : List Str) (e3 : Option V), σ = [some (.ref a), some .non, some (.ref qf), e3] ∧ Kp [a] H H1 ∧ RdA H1 a tl T n s1 ∧ H1 qf = some (.lst (ls.map V.str)) ∧ ls.length ≤ s1.p ∧ T.length ≤ s1.p + m ∧ wordM T m ls s1.p = R ∧ ls.length ≤ 30,
      ⟨T.length, ⟨0, 0, 0⟩, [], none, rfl, k0, L0, upd_same, Nat.zero_le _, by show _ ≤ 0 + _; omega, hR, Nat.zero_le _⟩, ?_⟩
    rintro m σ H1 ⟨s1, ls, e3, rfl, k1, L1, hf, hle, hfu, he, h30⟩
    have lt1 := L1.lt
    obtain ⟨m', rfl⟩ : ∃ m', m = m' + 1 := ⟨m - 1, by omega⟩
    unfold wordM at he
    refine ⟨_, rfl, a, tl, T, n, s1, rfl, L1, rfl, _, rfl, ite2 (fun h4 => ?_) (fun h4 => ?_)⟩
    · have h4' : tk T s1.p ≠ "" := by simpa using h4
      rw [if_neg h4'] at he
      refine ⟨_, fun σ' H' z => z, ?_⟩
      refine ⟨_, rfl, a, tl, T, n, s1, rfl, L1, ?_⟩
      refine ⟨_, rfl, rfl, _, rfl, ?_⟩
      refine ite2 (fun _ => ?_) (fun z => absurd (decide_eq_true rfl) z)
      refine ⟨_, rfl, _, rfl, L1.ok.small _, fun H3 k3 => ⟨_, rfl, ?_⟩⟩
      have L3 := L1.kp0 k3
      have k13 := k1.trans k3.any
      have hf3 := k3.at0 hf
      have bad : (letterM (tk T s1.p) && decide (ls.length < 30)) = false → tCall spFail [] E0 (tCons (tVar 0) tNil) [some (.ref a), some .non, some (.ref qf), some (.str (tk T s1.p))] H3 Q := fun z => by
        rw [z] at he
        refine ⟨_, rfl, a, tl, T, n, s1, rfl, L3, fun H4 v k4 t4 => q' H4 v (k13.trans k4.any) ?_⟩
        rw [← he]
        exact t4
      refine ite2 (fun h5 => ?_) (fun h5 => ?_)
      · exact bad (by rw [show letterM (tk T s1.p) = false by simpa using h5]; rfl)
      · have h5' : letterM (tk T s1.p) = true := by simpa using h5
        refine ⟨_, rfl, _, _, rfl, .inl ⟨_, SqL.of hf3, rfl⟩, rfl, _, rfl, ite2 (fun h6 => ?_) (fun h6 => ?_)⟩
        · have h6' : ls.length = 30 := by
            have : V.int ((ls.map V.str).length : Nat) = V.int 30 := of_decide_eq_true h6
            injection this with this
            rw [List.length_map] at this
            omega
          exact bad (by rw [decide_eq_false (by omega)]; simp)
        · have h6' : ls.length ≠ 30 := fun z => h6 (decide_eq_true (by rw [List.length_map, z]; rfl))
          rw [h5', decide_eq_true (show ls.length < 30 by omega)] at he
          replace he : wordM T m' (ls ++ [tk T s1.p]) (s1.p + 1) = R := he
          refine ⟨_, rfl, rfl, _, rfl, ?_⟩
          refine ite2 (fun z => absurd z (by decide)) (fun _ => ?_)
          obtain ⟨us3, i0, i1, i2, i3⟩ := L3.ex
          refine ⟨_, rfl, .inl ⟨rfl, _, SqL.of hf3⟩, _, rfl, rfl, _, rfl, ?_⟩
          refine ite2 (fun _ => ?_) (fun z => absurd (decide_eq_true rfl) z)
          have hf4 := hf3
          refine ⟨_, rfl, qf, _, _, rfl, rfl, hf3, ?_, ?_⟩
          · rw [List.length_map, sizeLine_eq]
            omega
          · have L4 := L3.other (us' := ls.map V.str ++ [.str (tk T s1.p)]) hqa hql hf3
            obtain ⟨us4, l0, l1, l2, l3⟩ := L4.ex
            have k4 := k13.upN hq (.lst (ls.map V.str ++ [.str (tk T s1.p)]))
            have hf4 : upd H3 qf (.lst (ls.map V.str ++ [.str (tk T s1.p)])) qf = some (.lst (ls.map V.str ++ [.str (tk T s1.p)])) := upd_same
            refine ⟨_, rfl, a, _, 2, .int s1.p, rfl, rfl, SqL.of l1, rfl, _, _, rfl, rfl, _, rfl, a, _, 2, 2, rfl, rfl, l1, rfl, ?_⟩
            refine ⟨m', Nat.lt_succ_self _, ⟨s1.p + 1, s1.r, s1.l⟩, ls ++ [tk T s1.p], _, rfl, k4.upR (List.mem_singleton.mpr rfl) L.chg _, L4.mv (s' := ⟨s1.p + 1, s1.r, s1.l⟩) l0 l1 l2 l3 (L1.ok.last _ L1.lt h4'), ?_, ?_, ?_, he, ?_⟩
            · rw [upd_ne hqa, upd_same, List.map_append]
              rfl
            · rw [List.length_append]
              show ls.length + 1 ≤ s1.p + 1
              omega
            · show T.length ≤ s1.p + 1 + m'
              omega
            · rw [List.length_append]
              show ls.length + 1 ≤ 30
              omega
    · have h4' : tk T s1.p = "" := by simpa using h4
      rw [if_pos h4'] at he
      rw [← he] at q'
      refine ⟨_, rfl, qf, _, rfl, .inl ⟨SqL.of hf, fun l hl => ?_⟩⟩
      exact q' _ _ (k1.new hl _) (TD.tup upd_same (TDs.strs ls))
  | false =>
    have q' : ∀ R, posM T T.length [] 0 = R → ∀ (H' : Hp) (v : V), Kp [a] H H' → TD H' v (outN n (match R with
      | .error c => .error c
      | .ok ls => .ok (tupI ls))) → Q v H' := fun R e H' v k t => by
      subst e
      exact q H' v k t
    generalize hR : posM T T.length [] 0 = R
    replace q' := q' R hR
    refine ⟨fun m σ H1 => ∃ (s1 : PSt) (ls : List Nat) (e3 : Option V), σ = [some (.ref a), some (.int 30), some (.ref qf), e3] ∧ Kp [a] H H1 ∧ RdA H1 a tl T n s1 ∧ H1 qf = some (.lst (nsV ls)) ∧ ls.length ≤ s1.p ∧ T.length ≤ s1.p + m ∧ posM T m ls s1.p = R,
      ⟨T.length, ⟨0, 0, 0⟩, [], none, rfl, k0, L0, upd_same, Nat.zero_le _, by show _ ≤ 0 + _; omega, hR⟩, ?_⟩
    rintro m σ H1 ⟨s1, ls, e3, rfl, k1, L1, hf, hle, hfu, he⟩
    have lt1 := L1.lt
    obtain ⟨m', rfl⟩ : ∃ m', m = m' + 1 := ⟨m - 1, by omega⟩
    unfold posM at he
    refine ⟨_, rfl, a, tl, T, n, s1, rfl, L1, rfl, _, rfl, ite2 (fun h4 => ?_) (fun h4 => ?_)⟩
    · have h4' : tk T s1.p ≠ "" := by simpa using h4
      rw [if_neg h4'] at he
      refine ⟨_, fun σ' H' z => z, ?_⟩
      refine ⟨_, rfl, a, tl, T, n, s1, rfl, L1, ?_⟩
      refine ⟨_, rfl, rfl, _, rfl, ?_⟩
      refine ite2 (fun z => absurd z (by decide)) (fun _ => ?_)
      refine ⟨_, rfl, rfl, _, rfl, ?_⟩
      refine ite2 (fun _ => ?_) (fun z => absurd rfl z)
      refine ⟨_, rfl, _, rfl, _, 30, rfl, L1.ok.small _, .inl rfl, fun H3 k3 => ⟨rfl, _, rfl, ?_⟩⟩
      have L3 := L1.kp0 k3
      have k13 := k1.trans k3.any
      have hf3 := k3.at0 hf
      cases hfig : figsM (tk T s1.p) 30 with
      | none =>
        rw [hfig] at he
        replace he : (.error (cl T s1.p) : Except Nat (List Nat)) = R := he
        refine ite2 (fun _ => ?_) (fun z => absurd rfl z)
        refine ⟨_, rfl, a, tl, T, n, s1, rfl, L3, fun H4 v k4 t4 => q' H4 v (k13.trans k4.any) ?_⟩
        rw [← he]
        exact t4
      | some i =>
        rw [hfig] at he
        replace he : posM T m' (ls ++ [i]) (s1.p + 1) = R := he
        refine ite2 (fun z => absurd z (by show ¬ (decide (V.int (i : Nat) = V.non)) = true; simp)) (fun _ => ?_)
        obtain ⟨us3, i0, i1, i2, i3⟩ := L3.ex
        have hx : PySem.intText? (tk T s1.p) = some ((i : Nat) : Int) ∧ (tk T s1.p).length ≤ 640 := by
          have h1 : (1 ≤ (tk T s1.p).length ∧ (tk T s1.p).length ≤ 8) ∧ (TL.tl (tk T s1.p)).all isFg = true := by
            by_cases z : (1 ≤ (tk T s1.p).length ∧ (tk T s1.p).length ≤ 8) ∧ (TL.tl (tk T s1.p)).all isFg = true
            · exact z
            · rw [figs_no z] at hfig
              cases hfig
          have h2 := figs_yes (m := 30) h1.1.1 h1.1.2 h1.2
          rw [hfig] at h2
          refine ⟨?_, by have := h1.1.2; omega⟩
          rw [intText_fg h1.2 h1.1.1 (by have := h1.1.2; omega)]
          split at h2
          · cases h2
          · split at h2
            · injection h2 with h2
              rw [h2]
            · cases h2
        refine ⟨_, rfl, .inl ⟨rfl, _, SqL.of hf3⟩, _, rfl, rfl, _, rfl, ?_⟩
        refine ite2 (fun z => absurd z (by decide)) (fun _ => ?_)
        refine ⟨_, rfl, _, _, rfl, hx.1, hx.2, qf, _, _, rfl, rfl, hf3, ?_, ?_⟩
        · rw [List.length_map, sizeLine_eq]
          have := L1.ok.len
          omega
        · have L4 := L3.other (us' := nsV ls ++ [.int (i : Nat)]) hqa hql hf3
          obtain ⟨us4, l0, l1, l2, l3⟩ := L4.ex
          have k4 := k13.upN hq (.lst (nsV ls ++ [.int (i : Nat)]))
          refine ⟨_, rfl, a, _, 2, .int s1.p, rfl, rfl, SqL.of l1, rfl, _, _, rfl, rfl, _, rfl, a, _, 2, 2, rfl, rfl, l1, rfl, ?_⟩
          refine ⟨m', Nat.lt_succ_self _, ⟨s1.p + 1, s1.r, s1.l⟩, ls ++ [i], _, rfl, k4.upR (List.mem_singleton.mpr rfl) L.chg _, L4.mv (s' := ⟨s1.p + 1, s1.r, s1.l⟩) l0 l1 l2 l3 (L1.ok.last _ L1.lt h4'), ?_, ?_, ?_, he⟩
          · rw [upd_ne hqa, upd_same]
            simp [nsV]
          · rw [List.length_append]
            show ls.length + 1 ≤ s1.p + 1
            omega
          · show T.length ≤ s1.p + 1 + m'
            omega
    · have h4' : tk T s1.p = "" := by simpa using h4
      rw [if_pos h4'] at he
      rw [← he] at q'
      refine ⟨_, rfl, qf, _, rfl, .inl ⟨SqL.of hf, fun l hl => ?_⟩⟩
      exact q' _ _ (k1.new hl _) (TD.tup upd_same (TDs.nats ls))
end T65
end
section
/-! W20: the law's read_route. -/
namespace T65
open PySem PySem.Spec PyProof.Rows L2
def itemM (i : Nat) (x : Str) : Option PyData := if i < 2 then (match figsM x 30 with
  | some n => some (.int (n : Nat))
  | none => none) else nameD x
structure ItemsOk (T : TkL) (p i : Nat) (ds : List PyData) : Prop where
  len : ds.length = i
  all : ∀ j d, ds[j]? = some d → itemM j (tk T (p + j)) = some d
theorem ItemsOk.snoc {T : TkL} {p i : Nat} {ds : List PyData} {d : PyData} (h : ItemsOk T p i ds) (e : itemM i (tk T (p + i)) = some d) : ItemsOk T p (i + 1) (ds ++ [d]) := by
  refine ⟨by rw [List.length_append, h.len]; rfl, fun j d' hj => ?_⟩
  by_cases hl : j < ds.length
  · rw [List.getElem?_append_left hl] at hj
    exact h.all j d' hj
  · have hj2 : j = ds.length := by
      have := (List.getElem?_eq_some_iff.mp hj).1
      rw [List.length_append, List.length_singleton] at this
      omega
    subst hj2
    rw [List.getElem?_append_right (Nat.le_refl _), Nat.sub_self] at hj
    simp at hj
    subst hj
    rw [h.len]
    exact e
theorem stepM_items (T : TkL) (p : Nat) : stepM T p = match itemM 0 (tk T p) with
    | none => .error (cl T p)
    | some a => match itemM 1 (tk T (p + 1)) with
      | none => .error (cl T (p + 1))
      | some b => match itemM 2 (tk T (p + 2)) with
        | none => .error (cl T (p + 2))
        | some d => .ok (.tuple [a, b, d]) := by
  unfold stepM itemM
  simp only [show (0 < 2) = True by simp, show (1 < 2) = True by simp, show (2 < 2) = False by simp, if_true, if_false]
  cases figsM (tk T p) 30 with
  | none => rfl
  | some a =>
    dsimp only
    cases figsM (tk T (p + 1)) 30 with
    | none => rfl
    | some b =>
      dsimp only
      all_goals (cases nameD (tk T (p + 2)) <;> rfl)
theorem step_err {T : TkL} {p i : Nat} {ds : List PyData} (h : ItemsOk T p i ds) (hi : i < 3) (e : itemM i (tk T (p + i)) = none) : stepM T p = .error (cl T (p + i)) := by
  rw [stepM_items]
  have hl := h.len
  match i, ds, hl, hi with
  | 0, [], _, _ => rw [show itemM 0 (tk T p) = none from e]; rfl
  | 1, [d0], _, _ =>
    rw [show itemM 0 (tk T p) = some d0 from h.all 0 d0 rfl]
    dsimp only
    rw [e]
  | 2, [d0, d1], _, _ =>
    rw [show itemM 0 (tk T p) = some d0 from h.all 0 d0 rfl]
    dsimp only
    rw [h.all 1 d1 rfl]
    dsimp only
    rw [e]
theorem step_ok {T : TkL} {p : Nat} {ds : List PyData} (h : ItemsOk T p 3 ds) : stepM T p = .ok (.tuple ds) := by
  rw [stepM_items]
  have hl := h.len
  match ds, hl with
  | [d0, d1, d2], _ =>
    rw [show itemM 0 (tk T p) = some d0 from h.all 0 d0 rfl]
    dsimp only
    rw [h.all 1 d1 rfl]
    dsimp only
    rw [h.all 2 d2 rfl]
def routeR (T : TkL) : Except Nat PyData := match routeM T T.length [] 0 with
  | .error c => .error c
  | .ok ds => .ok (.tuple ds)
def spLRoute : Sp := fun vs H Q _ => ∃ (a tl : Addr) (T : TkL) (n : Nat), vs = [.ref a] ∧ RdA H a tl T n ⟨0, 0, 0⟩ ∧ ∀ (H' : Hp) (v : V), Kp [a] H H' → TD H' v (outN n (routeR T)) → Q v H'
theorem item_ne {i : Nat} {x : Str} {d : PyData} (h : itemM i x = some d) : x ≠ "" := fun z => by
  rw [z] at h
  unfold itemM at h
  split at h
  · cases h
  · cases h
theorem ok_law_read_route {P : Program} {w : World} {K : PySem.W.Frag} {mg : Str → Option Value} {base : Heap} {C S f : Addr} {fd : FuncData} (g : G65 K mg C S) (F : Fn K "_law_read_route" s_law_read_route f fd) (gF : mg "_law_read_route" = some (.ref f))
    (c_law_next : Cal P w K mg base CX0 1 "_law_next" p_law_next spNext) (c_law_fail : Cal P w K mg base CX0 1 "_law_fail" p_law_fail spFail) (c_law_is_name : Cal P w K mg base CX0 1 "_law_is_name" p_law_is_name spName) (c_law_integer_in : Cal P w K mg base CX0 1 "_law_integer_in" p_law_integer_in spFigs) :
    Cal P w K mg base CX0 2 "_law_read_route" p_law_read_route spLRoute := by
  refine cal_of F gF sc_law_read_route (fun vs H Q E h => by obtain ⟨a, tl, T, n, rfl, _⟩ := h; rfl) (fun cdv A outer s H vs Q E hr h => ⟨_,
      (pss_cons (ps_set (i := 1) sc_law_read_route.nd rfl (by first | exact Or.inl rfl | exact Or.inr rfl) (pe_lst pa_nil))
      (pss_cons (ps_while (passes_of rfl) (pt_cmpR op_ne (pe_cal c_law_next hr pass0 (pa_cons (pv 0) pa_nil)) pe_str (nomark _))
        (pss_cons (ps_if (pt_cmpR (op_neNil (hu64 hr)) (pv 1) (pe_lst pa_nil) (nomark _))
          (pss_cons (ps_if (pt_cmpR op_ne (pe_cal c_law_next hr pass0 (pa_cons (pv 0) pa_nil)) pe_str (nomark _))
            (pss_one (ps_ret (pe_cal c_law_fail hr pass0 (pa_cons (pv 0) pa_nil))))
            pss_nil)
          (pss_one (ps_asg (pe_op op_add (pe_ix (r := rIxL K) ix_list (pv 0) pe_int (fun _ _ => rfl)) pe_int) (pg_sub (pv 0) pe_int set_list))))
          pss_nil)
        (pss_cons (ps_if (pt_cmpR op_eq (pe_callB call_len rfl g.len rfl (pa_cons (pv 1) pa_nil)) pe_int (nomark _))
          (pss_one (ps_ret (pe_cal c_law_fail hr pass0 (pa_cons (pv 0) pa_nil))))
          pss_nil)
        (pss_cons (ps_set (i := 2) sc_law_read_route.nd rfl (by first | exact Or.inl rfl | exact Or.inr rfl) (pe_lst pa_nil))
        (pss_cons (ps_for (passes_of rfl) rfl (pi_range1 rfl g.range (pa_cons pe_int pa_nil)) (pg_name (i := 3) sc_law_read_route.nd rfl (by first | exact Or.inl rfl | exact Or.inr rfl))
          (pss_cons (ps_set (i := 4) sc_law_read_route.nd rfl (by first | exact Or.inl rfl | exact Or.inr rfl) (pe_cal c_law_next hr pass0 (pa_cons (pv 0) pa_nil)))
          (pss_cons (ps_set (i := 5) sc_law_read_route.nd rfl (by first | exact Or.inl rfl | exact Or.inr rfl) (pe_cal c_law_integer_in hr pass0 (pa_cons (pv 4) (pa_cons (pe_ifExp (pt_cmpR op_lt (pv 3) pe_int (nomark _)) pe_int pe_int) pa_nil))))
          (pss_cons (ps_if (PW.pt (pw_and (pt_cmpR op_isN (pv 5) pe_non (nomark _)) (pw_and1 (PW.pt (pw_or (pt_cmpR op_lt (pv 3) pe_int (nomark _)) (pw_or1 (pt_not (pt_val (pe_cal c_law_is_name hr pass0 (pa_cons (pv 4) pa_nil))))))))))
            (pss_one (ps_ret (pe_cal c_law_fail hr pass0 (pa_cons (pv 0) pa_nil))))
            pss_nil)
          (pss_cons (ps_expr (pe_bm PySem.F.plainAttrs_list PySem.F.slot_list_append PySem.F.type_list_append mt_append (pv 2) (pa_cons (pe_ifExp (pt_cmpR op_isN (pv 5) pe_non (nomark _)) (pv 4) (pv 5)) pa_nil)))
          (pss_one (ps_asg (pe_op op_add (pe_ix (r := rIxL K) ix_list (pv 0) pe_int (fun _ _ => rfl)) pe_int) (pg_sub (pv 0) pe_int set_list))))))))
        (pss_one (ps_expr (pe_bm PySem.F.plainAttrs_list PySem.F.slot_list_append PySem.F.type_list_append mt_append (pv 1) (pa_cons (pe_callTy call_tuple_of rfl g.tuple rfl (pa_cons (pv 2) pa_nil)) pa_nil)))))))))
      (pss_one (ps_ret (pe_callTy call_tuple_of rfl g.tuple rfl (pa_cons (pv 1) pa_nil)))))), ?_⟩) (fun _ _ _ _ _ _ us hl => match us, hl with | [_], _ => rfl)
  obtain ⟨a, tl, T, n, rfl, L, q⟩ := h
  refine ⟨Nat.zero_le _, fun qf hq => ?_⟩
  obtain ⟨hqa, hql⟩ := L.ne hq
  have k0 := (Kp.refl [a] H).new hq (.lst [])
  have L0 := L.kp0 ((Kp.refl [] H).new hq (.lst []))
  have q' : ∀ R, routeM T T.length [] 0 = R → ∀ (H' : Hp) (v : V), Kp [a] H H' → TD H' v (outN n (match R with
      | .error c => .error c
      | .ok ds => .ok (.tuple ds))) → Q v H' := fun R e H' v k t => by
    subst e
    exact q H' v k t
  generalize hR : routeM T T.length [] 0 = R
  replace q' := q' R hR
  refine ⟨fun m σ H1 => ∃ (s1 : PSt) (vs : List V) (ds : List PyData) (e2 e3 e4 e5 : Option V), σ = [some (.ref a), some (.ref qf), e2, e3, e4, e5] ∧ Kp [a] H H1 ∧ RdA H1 a tl T n s1 ∧ H1 qf = some (.lst vs) ∧ TDs H1 vs ds ∧ ds.length ≤ s1.p ∧ T.length ≤ s1.p + m ∧ routeM T m ds s1.p = R,
    ⟨T.length, ⟨0, 0, 0⟩, [], [], none, none, none, none, rfl, k0, L0, upd_same, .nil, Nat.zero_le _, by show _ ≤ 0 + _; omega, hR⟩, ?_⟩
  rintro m σ H1 ⟨s1, vs, ds, e2, e3, e4, e5, rfl, k1, L1, hf, hd, hle, hfu, he⟩
  have lt1 := L1.lt
  obtain ⟨m', rfl⟩ : ∃ m', m = m' + 1 := ⟨m - 1, by omega⟩
  unfold routeM at he
  have hlen := hd.len
  have fail : ∀ (H2 : Hp) (s2 : PSt) (σ : L2.St), σ[0]? = some (some (.ref a)) → Kp [a] H H2 → RdA H2 a tl T n s2 → (.error (cl T s2.p) : Except Nat (List PyData)) = R → tCall spFail [] E0 (tCons (tVar 0) tNil) σ H2 Q := by
    intro H2 s2 σ s0 k2 L2' e
    rw [← e] at q'
    exact ⟨_, s0, a, tl, T, n, s2, rfl, L2', fun H3 v k3 t3 => q' H3 v (k2.trans k3.any) t3⟩
  refine ⟨_, rfl, a, tl, T, n, s1, rfl, L1, rfl, _, rfl, ite2 (fun h4 => ?_) (fun h4 => ?_)⟩
  · have h4' : tk T s1.p ≠ "" := by simpa using h4
    rw [if_neg h4'] at he
    refine ⟨_, fun σ' H' z => z, ?_⟩
    refine seq_Z fun Z hZ => ?_
    have tail : ∀ (H3 : Hp) (s3 : PSt), Kp [a] H H3 → RdA H3 a tl T n s3 → H3 qf = some (.lst vs) → TDs H3 vs ds → s1.p ≤ s3.p →
        (if ds.length = 60 then (.error (cl T s3.p) : Except Nat (List PyData)) else match stepM T s3.p with
          | .error c => .error c
          | .ok d => routeM T m' (ds ++ [d]) (s3.p + 3)) = R → Z [some (.ref a), some (.ref qf), e2, e3, e4, e5] H3 := by
      intro H3 s3 k3 L3 hf3 hd3 hp3 e
      rw [hZ]
      refine ⟨_, rfl, _, _, rfl, .inl ⟨_, SqL.of hf3, rfl⟩, rfl, _, rfl, ite2 (fun h5 => ?_) (fun h5 => ?_)⟩
      · have h5' : ds.length = 60 := by
          have : V.int (vs.length : Nat) = V.int 60 := of_decide_eq_true h5
          injection this with this
          omega
        rw [if_pos h5'] at e
        exact fail H3 s3 _ rfl k3 L3 e
      · have h5' : ¬ ds.length = 60 := fun z => h5 (decide_eq_true (by rw [hlen, z]; rfl))
        rw [if_neg h5'] at e
        refine ⟨Nat.zero_le _, fun sf hsf => ?_⟩
        have kk := (Kp.refl [] H3).new hsf (.lst [])
        have hs0 := k3.fresh hsf
        obtain ⟨hsa, hsl⟩ := L3.ne hsf
        have qs : qf ≠ sf := ne_of_none hf3 hsf
        dsimp only [gName]
        refine seq_Z fun Z3 hZ3 => ?_
        refine ⟨3, rfl, by decide, by decide, ?_⟩
        refine for_by 3 (fun i σ H4 => ∃ (svs : List V) (sds : List PyData) (s4 : PSt) (e3 e4 e5 : Option V), σ = [some (.ref a), some (.ref qf), some (.ref sf), e3, e4, e5] ∧ Kp [a] H H4 ∧ RdA H4 a tl T n s4 ∧ s4.p = s3.p + i ∧ H4 qf = some (.lst vs) ∧ TDs H4 vs ds ∧ H4 sf = some (.lst svs) ∧ TDs H4 svs sds ∧ ItemsOk T s3.p i sds)
          ⟨[], [], s3, e3, e4, e5, rfl, k3.new hsf _, L3.kp0 kk, rfl, kk.at0 hf3, hd3.tu kk.tu, upd_same, .nil, rfl, fun j d z => by simp at z⟩ (fun i σ H4 hi _ => hi) (fun σ H4 _ => Nat.le_refl _) (fun i v σ H4 H5 hi hP hy => ?_) (fun σ H4 hP => ?_)
        · obtain ⟨svs, sds, s4, e3', e4', e5', rfl, k4, L4, hp4, hf4, hd4, hs4, hsd4, hok⟩ := hP
          obtain ⟨rfl, rfl⟩ := hy
          have key : ∀ (H6 : Hp) (σ6 : L2.St) (v : V) (d : PyData), itemM i (tk T (s3.p + i)) = some d → Kp [] H5 H6 → TD H6 v d → ∀ (D : Ends), D.rt = Q →
              D.nx = (fun σ H4 => ∃ (svs : List V) (sds : List PyData) (s4 : PSt) (e3 e4 e5 : Option V), σ = [some (.ref a), some (.ref qf), some (.ref sf), e3, e4, e5] ∧ Kp [a] H H4 ∧ RdA H4 a tl T n s4 ∧ s4.p = s3.p + (i + 1) ∧ H4 qf = some (.lst vs) ∧ TDs H4 vs ds ∧ H4 sf = some (.lst svs) ∧ TDs H4 svs sds ∧ ItemsOk T s3.p (i + 1) sds) →
              ∀ (e3 e4 e5 : Option V), ∃ l xs y, V.ref sf = .ref l ∧ [v] = [y] ∧ H6 l = some (.lst xs) ∧ xs.length < sizeLine ∧
                tAsg (tOp (rI0 fun i j => .int (i + j)) (tOp (rIxL K) (tVar 0) (tC (.int 2))) (tC (.int 1))) (gSub (tVar 0) (tC (.int 2)) rSetL) D [some (.ref a), some (.ref qf), some (.ref sf), e3, e4, e5] (upd H6 l (.lst (xs ++ [y]))) := by
            intro H6 σ6 v d hit k6 t6 D hrt hnx e3 e4 e5
            have L6 := L4.kp0 k6
            have hs6 := k6.at0 hs4
            have L7 := L6.other (us' := svs ++ [v]) hsa hsl hs6
            obtain ⟨us7, m0, m1, m2, m3⟩ := L7.ex
            refine ⟨sf, _, _, rfl, rfl, hs6, ?_, ?_⟩
            · have := hsd4.len
              have := hok.len
              rw [sizeLine_eq]
              omega
            · refine ⟨_, rfl, a, _, 2, .int s4.p, rfl, rfl, SqL.of m1, rfl, _, _, rfl, rfl, _, rfl, a, _, 2, 2, rfl, rfl, m1, rfl, ?_⟩
              rw [hnx]
              have hne := item_ne hit
              rw [← hp4] at hne
              have k7 := (k4.trans k6.any).upN hs0 (.lst (svs ++ [v]))
              have hf7 : upd H6 sf (.lst (svs ++ [v])) qf = some (.lst vs) := by rw [upd_ne qs]; exact k6.at0 hf4
              have tq : Tu (upd H6 sf (.lst (svs ++ [v]))) (upd (upd H6 sf (.lst (svs ++ [v]))) a (.lst [.ref tl, .int n, .int ((s4.p : Nat) + 1), .int s4.r, .int s4.l])) := fun b xs e => by rw [upd_ne (ne_of e m1 (by simp))]; exact e
              refine ⟨svs ++ [v], sds ++ [d], ⟨s4.p + 1, s4.r, s4.l⟩, _, _, _, rfl, k7.upR (List.mem_singleton.mpr rfl) L.chg _, L7.mv (s' := ⟨s4.p + 1, s4.r, s4.l⟩) m0 m1 m2 m3 (L.ok.last _ L4.lt hne), by show s4.p + 1 = _; omega, ?_, ?_, ?_, ?_, hok.snoc hit⟩
              · rw [upd_ne hqa]
                exact hf7
              · exact ((hd4.tu k6.tu).tu (Tu.lst hs6)).tu tq
              · rw [upd_ne hsa, upd_same]
              · exact (((hsd4.tu k6.tu).app (TDs.one t6)).tu (Tu.lst hs6)).tu tq
          have ferr : ∀ (H6 : Hp) (σ6 : L2.St), σ6[0]? = some (some (.ref a)) → Kp [] H5 H6 → itemM i (tk T (s3.p + i)) = none → tCall spFail [] E0 (tCons (tVar 0) tNil) σ6 H6 Q := by
            intro H6 σ6 s0 k6 hit
            rw [step_err hok hi hit] at e
            exact fail H6 s4 σ6 s0 (k4.trans k6.any) (L4.kp0 k6) (by rw [hp4]; exact e)
          have hword : tk T s4.p = tk T (s3.p + i) := by rw [hp4]
          have eplace : decide (((0 : Int) + (i : Nat)) < 2) = decide (i < 2) := decide_eq_decide.mpr (by omega)
          refine ⟨_, rfl, a, tl, T, n, s4, rfl, L4, ?_⟩
          by_cases h2 : i < 2
          · refine ⟨_, rfl, _, rfl, _, _, rfl, rfl, _, rfl, ?_⟩
            refine ite2 (fun _ => ?_) (fun z => absurd (by rw [eplace]; exact decide_eq_true h2) z)
            refine ⟨_, 30, rfl, L4.ok.small _, .inl rfl, fun H6 k6 => ⟨_, rfl, rfl, _, rfl, ?_⟩⟩
            rw [hword]
            have hit : itemM i (tk T (s3.p + i)) = match figsM (tk T (s3.p + i)) 30 with
                | some n => some (.int (n : Nat))
                | none => none := if_pos h2
            cases hfig : figsM (tk T (s3.p + i)) 30 with
            | none =>
              rw [hfig] at hit
              refine ite2 (fun _ => ?_) (fun z => absurd rfl z)
              refine ⟨_, rfl, _, _, rfl, rfl, _, rfl, ?_⟩
              refine ite2 (fun _ => ?_) (fun z => absurd (by rw [eplace]; exact decide_eq_true h2) z)
              exact ferr H6 _ rfl k6 hit
            | some i1 =>
              rw [hfig] at hit
              refine ite2 (fun z => absurd z (by show ¬ (decide (V.int (i1 : Nat) = V.non)) = true; simp)) (fun _ => ?_)
              refine ⟨_, rfl, .inl ⟨rfl, _, SqL.of (k6.at0 hs4)⟩, _, rfl, rfl, _, rfl, ?_⟩
              refine ite2 (fun z => absurd z (by show ¬ (decide (V.int (i1 : Nat) = V.non)) = true; simp)) (fun _ => ?_)
              refine ⟨_, rfl, key H6 [] _ _ hit k6 (.int _) _ rfl rfl _ _ _⟩
          · have i2 : i = 2 := by omega
            refine ⟨_, rfl, _, rfl, _, _, rfl, rfl, _, rfl, ?_⟩
            refine ite2 (fun z => absurd (by rw [eplace] at z; exact of_decide_eq_true z) h2) (fun _ => ?_)
            refine ⟨_, 9999, rfl, L4.ok.small _, .inr (.inl rfl), fun H6 k6 => ⟨_, rfl, rfl, _, rfl, ?_⟩⟩
            rw [hword]
            have hit : itemM i (tk T (s3.p + i)) = nameD (tk T (s3.p + i)) := if_neg h2
            unfold nameD at hit
            cases hfig : figsM (tk T (s3.p + i)) 9999 with
            | none =>
              rw [hfig] at hit
              refine ite2 (fun _ => ?_) (fun z => absurd rfl z)
              refine ⟨_, rfl, _, _, rfl, rfl, _, rfl, ?_⟩
              refine ite2 (fun z => absurd (by rw [eplace] at z; exact of_decide_eq_true z) h2) (fun _ => ?_)
              refine ⟨_, rfl, _, rfl, (by have := L4.ok.small (s3.p + i); exact this), fun H7 k7 => ⟨_, rfl, ?_⟩⟩
              refine ite2 (fun h8 => ?_) (fun h8 => ?_)
              · have h8' : nameM (tk T (s3.p + i)) = false := by simpa using h8
                refine ferr H7 _ rfl (k6.trans k7) ?_
                rw [hit, h8']
                rfl
              · have h8' : nameM (tk T (s3.p + i)) = true := by simpa using h8
                have hit' : itemM i (tk T (s3.p + i)) = some (.str (tk T (s3.p + i))) := by rw [hit, h8']; rfl
                refine ⟨_, rfl, .inl ⟨rfl, _, SqL.of ((k6.trans k7).at0 hs4)⟩, _, rfl, rfl, _, rfl, ?_⟩
                refine ite2 (fun _ => ?_) (fun z => absurd rfl z)
                exact ⟨_, rfl, key H7 [] _ _ hit' (k6.trans k7) (.str _) _ rfl rfl _ _ _⟩
            | some i1 =>
              rw [hfig] at hit
              refine ite2 (fun z => absurd z (by show ¬ (decide (V.int (i1 : Nat) = V.non)) = true; simp)) (fun _ => ?_)
              refine ⟨_, rfl, .inl ⟨rfl, _, SqL.of (k6.at0 hs4)⟩, _, rfl, rfl, _, rfl, ?_⟩
              refine ite2 (fun z => absurd z (by show ¬ (decide (V.int (i1 : Nat) = V.non)) = true; simp)) (fun _ => ?_)
              refine ⟨_, rfl, key H6 [] _ _ hit k6 (.int _) _ rfl rfl _ _ _⟩
        · obtain ⟨svs, sds, s4, e3', e4', e5', rfl, k4, L4, hp4, hf4, hd4, hs4, hsd4, hok⟩ := hP
          show Z3 _ _
          rw [hZ3]
          rw [step_ok hok] at e
          replace e : routeM T m' (ds ++ [.tuple sds]) (s3.p + 3) = R := e
          refine ⟨_, rfl, .inl ⟨rfl, _, SqL.of hf4⟩, _, rfl, sf, _, rfl, .inl ⟨SqL.of hs4, fun p5 hp5 => ?_⟩⟩
          have k5 := (Kp.refl [] H4).new hp5 (.tup svs)
          refine ⟨qf, _, _, rfl, rfl, k5.at0 hf4, ?_, m', Nat.lt_succ_self _, s4, vs ++ [.ref p5], ds ++ [.tuple sds], _, _, _, _, rfl, (k4.trans k5.any).upN hq _, (L4.kp0 k5).other hqa hql (k5.at0 hf4), upd_same, ?_, ?_, ?_, ?_⟩
          · rw [sizeLine_eq]
            have := L1.ok.len
            omega
          · exact ((hd4.tu k5.tu).app (TDs.one (TD.tup upd_same (hsd4.tu k5.tu)))).tu (Tu.lst (k5.at0 hf4))
          · rw [List.length_append]
            show ds.length + 1 ≤ s4.p
            omega
          · omega
          · rw [hp4]
            exact e
    refine ⟨_, rfl, Nat.zero_le _, fun p hp => ⟨qf, p, vs, rfl, rfl, SqL.of (by rw [upd_ne (ne_of_none hf hp)]; exact hf), SqL.of upd_same, _, rfl, ite2 (fun h5 => ?_) (fun h5 => ?_)⟩⟩
    · have hne : ds ≠ [] := fun z => by
        rw [nil_iff hd, decide_eq_true z] at h5
        cases h5
      rw [if_neg hne] at he
      have kp := (Kp.refl [] H1).new hp (.lst [])
      have L2' := L1.kp0 kp
      refine ⟨_, rfl, a, tl, T, n, s1, rfl, L2', rfl, _, rfl, ite2 (fun h6 => ?_) (fun h6 => ?_)⟩
      · have h6' : tk T s1.p ≠ "," := by simpa using h6
        rw [if_neg h6'] at he
        exact fail _ s1 _ rfl (k1.trans kp.any) L2' he
      · have h6' : tk T s1.p = "," := by simpa using h6
        rw [if_pos h6'] at he
        obtain ⟨us2, m0, m1, m2, m3⟩ := L2'.ex
        refine ⟨_, rfl, a, _, 2, .int s1.p, rfl, rfl, SqL.of m1, rfl, _, _, rfl, rfl, _, rfl, a, _, 2, 2, rfl, rfl, m1, rfl, ?_⟩
        refine tail _ ⟨s1.p + 1, s1.r, s1.l⟩ ((k1.trans kp.any).upR (List.mem_singleton.mpr rfl) L.chg _) (L2'.mv (s' := ⟨s1.p + 1, s1.r, s1.l⟩) m0 m1 m2 m3 (L.ok.last _ L1.lt h4')) (by rw [upd_ne hqa]; exact kp.at0 hf) ((hd.tu kp.tu).tu fun b xs e => by rw [upd_ne (ne_of e m1 (by simp))]; exact e) (Nat.le_succ _) he
    · have hnil : ds = [] := by
        rw [nil_iff hd] at h5
        simpa using h5
      rw [if_pos hnil] at he
      have kp := (Kp.refl [] H1).new hp (.lst [])
      refine tail _ s1 (k1.trans kp.any) (L1.kp0 kp) (kp.at0 hf) (hd.tu kp.tu) (Nat.le_refl _) ?_
      rw [if_neg (by rw [hnil]; decide)]
      exact he
  · have h4' : tk T s1.p = "" := by simpa using h4
    rw [if_pos h4'] at he
    rw [← he] at q'
    refine ⟨_, rfl, qf, _, rfl, .inl ⟨SqL.of hf, fun l hl => ?_⟩⟩
    exact q' _ _ (k1.new hl _) (TD.tup upd_same (hd.tu (Tu.new hl)))
end T65
end
section
/-! W21: the law's line readers. -/
namespace T65
open PySem PySem.Spec PyProof.Rows L2
/-- a reader: its list, its tokens' list, its tokens and number -/
abbrev RdP := Addr × Addr × (TkL × Nat)
structure RdsA (H0 H : Hp) (ps : List RdP) : Prop where
  nd : (ps.map (·.1)).Nodup
  sep : ∀ p ∈ ps, ∀ q ∈ ps, p.1 ≠ q.2.1
  all : ∀ q ∈ ps, RdA H q.1 q.2.1 q.2.2.1 q.2.2.2 ⟨0, 0, 0⟩ ∧ H0 q.1 = none
theorem RdsA.kp0 {H0 H H' : Hp} {ps : List RdP} (L : RdsA H0 H ps) (k : Kp [] H H') : RdsA H0 H' ps := ⟨L.nd, L.sep, fun q hq => ⟨(L.all q hq).1.kp0 k, (L.all q hq).2⟩⟩
theorem RdsA.other {H0 H : Hp} {ps : List RdP} {D : Addr} {xs ys : List V} (L : RdsA H0 H ps) (e : H D = some (.lst xs)) (hD : ∀ q ∈ ps, D ≠ q.1 ∧ D ≠ q.2.1) : RdsA H0 (upd H D (.lst ys)) ps := ⟨L.nd, L.sep, fun q hq => ⟨(L.all q hq).1.other (hD q hq).1 (hD q hq).2 e, (L.all q hq).2⟩⟩
theorem RdA.kpO {H H' : Hp} {a tl b : Addr} {T : TkL} {n : Nat} {s : PSt} (L : RdA H a tl T n s) (k : Kp [b] H H') (h1 : a ≠ b) (h2 : tl ≠ b) : RdA H' a tl T n s := by
  obtain ⟨us, i0, i1, i2, i3⟩ := L.ex
  exact ⟨⟨us, i0, k.at_ i1 (by simpa using h1), k.at_ i2 (by simpa using h2), i3.tu k.tu⟩, L.ok, L.num, L.lt⟩
theorem RdsA.mv {H0 H H' : Hp} {p0 : RdP} {ps : List RdP} (L : RdsA H0 H (p0 :: ps)) (k : Kp [p0.1] H H') : RdsA H0 H' ps := by
  obtain ⟨n1, n2⟩ := List.nodup_cons.mp (show (p0.1 :: ps.map (·.1)).Nodup from L.nd)
  refine ⟨n2, fun p hp q hq => L.sep p (List.mem_cons_of_mem _ hp) q (List.mem_cons_of_mem _ hq), fun q hq => ?_⟩
  obtain ⟨L1, h0⟩ := L.all q (List.mem_cons_of_mem _ hq)
  exact ⟨L1.kpO k (fun z => n1 (by rw [← z]; exact List.mem_map_of_mem hq)) (Ne.symm (L.sep p0 (List.mem_cons_self ..) q (List.mem_cons_of_mem _ hq))), h0⟩
theorem linesOf_len : ∀ (l : List Str) (k : Nat), (linesOf k l).length = l.length
  | [], _ => rfl
  | y :: r, k => by
    show (linesOf (k + 1) r).length + 1 = _
    rw [linesOf_len r]
    rfl
def spReaders : Sp := fun vs H Q _ => ∃ x : Str, vs = [.str x] ∧ x.length < 2 ^ 17 ∧ ∀ (H' : Hp) (l : Addr) (ps : List RdP), Kp [] H H' → H l = none → H' l = some (.lst (ps.map fun q => .ref q.1)) → RdsA H H' ps → ps.map (·.2.2) = linesM x → (∀ q ∈ ps, l ≠ q.1 ∧ l ≠ q.2.1) → Q (.ref l) H'
theorem ok_law_line_readers {P : Program} {w : World} {K : PySem.W.Frag} {mg : Str → Option Value} {base : Heap} {C S f : Addr} {fd : FuncData} (g : G65 K mg C S) (F : Fn K "_law_line_readers" s_law_line_readers f fd) (gF : mg "_law_line_readers" = some (.ref f))
    (c_law_made_reader : Cal P w K mg base CX0 2 "_law_made_reader" p_law_made_reader spMade) (c_law_next : Cal P w K mg base CX0 1 "_law_next" p_law_next spNext) : Cal P w K mg base CX0 3 "_law_line_readers" p_law_line_readers spReaders := by
  refine cal_of F gF sc_law_line_readers (fun vs H Q E h => by obtain ⟨x, rfl, _⟩ := h; rfl) (fun cdv A outer s H vs Q E hr h => ⟨_,
      (pss_cons (ps_setLc rfl sc_law_line_readers.nd (i := 1) rfl rfl (sw_true rfl rfl rfl rfl) (pi_enum rfl g.enumerate (pa_cons (pe_split (pv 0) pe_str) pa_nil)) (own := [("_law_place", 2), ("_law_line", 3)]) (blkOk_by (by kernel_rfl)) (fun _ _ _ _ _ => (pg_tupK (K := K) (n := 2) rfl rfl (pgs_cons (pg_name (i := 2) sc_law_line_readers.nd rfl (by first | exact Or.inl rfl | exact Or.inr rfl)) (pgs_cons (pg_name (i := 3) sc_law_line_readers.nd rfl (by first | exact Or.inl rfl | exact Or.inr rfl)) pgs_nil)))) (fun _ _ _ _ _ => pts_nil) (fun _ _ _ _ _ => (pe_cal c_law_made_reader hr pass0 (pa_cons (pv 3) (pa_cons (pe_op op_add (pv 2) pe_int) pa_nil)))))
      (pss_one (ps_ret (pe_lc rfl sc_law_line_readers.nd (pi_listK (K := K) rfl (pv 1)) (own := [("_law_reader", 4)]) (blkOk_by (by kernel_rfl)) (fun _ _ _ _ _ => (pg_name (i := 4) sc_law_line_readers.nd rfl (by first | exact Or.inl rfl | exact Or.inr rfl))) (fun _ _ _ _ _ => (pts_one (pt_cmpR op_ne (pe_cal c_law_next hr pass0 (pa_cons (pv 4) pa_nil)) pe_str (nomark _)))) (fun _ _ _ _ _ => (pv 4)))))), ?_⟩) (fun _ _ _ _ _ _ us hl => match us, hl with | [_], _ => rfl)
  obtain ⟨x, rfl, hx, fin⟩ := h
  have hs2 : x.length + 2 ≤ sizeLine := by rw [sizeLine_eq]; omega
  obtain ⟨sm1, sm2⟩ := split_small x
  generalize hp : Txt.split x "\n" = parts at sm1 sm2
  refine ⟨_, rfl, ⟨x, rfl⟩, _, _, rfl, rfl, by decide +kernel, hs2, fun p hp0 => ?_⟩
  rw [hp]
  have k1 := (Kp.refl [] H).new hp0 (.lst (parts.map V.str))
  refine ⟨p, _, rfl, SqL.of upd_same, fun D hD => ?_⟩
  have hD0 := k1.fresh hD
  have pD : p ≠ D := ne_of_none upd_same hD
  refine lc_by parts.length (fun i H2 => ∃ ps : List RdP, Kp [] H H2 ∧ H2 p = some (.lst (parts.map V.str)) ∧ H2 D = some (.lst (ps.map fun q => .ref q.1)) ∧ RdsA H H2 ps ∧ ps.map (·.2.2) = linesOf 0 (parts.take i) ∧ (∀ q ∈ ps, D ≠ q.1 ∧ D ≠ q.2.1))
    ⟨[], k1.new hD _, by rw [upd_ne pD, upd_same], upd_same, ⟨by simp, fun p hp => by simp at hp, fun q hq => by simp at hq⟩, rfl, fun q hq => by simp at hq⟩ (fun i H2 hi hP => ?_) (fun H2 hP => ?_) (fun i v H2 H3 hi hP hy => ?_) (fun H2 hP => ?_)
  · obtain ⟨ps, k2, hp2, _⟩ := hP
    exact ⟨_, .str parts[i], SqL.of hp2, by rw [List.getElem?_map, List.getElem?_eq_getElem hi]; rfl⟩
  · obtain ⟨ps, k2, hp2, _⟩ := hP
    exact ⟨_, SqL.of hp2, by rw [List.length_map]; exact Nat.le_refl _⟩
  · obtain ⟨ps, k2, hp2, hD2, L2', e2, nt⟩ := hP
    obtain ⟨Tt, xv, rfl, hT, rfl, hx2⟩ := hy
    have hxv : xv = .str parts[i] := by
      have := hx2 _ (SqL.of hp2)
      rw [List.getElem?_map, List.getElem?_eq_getElem hi] at this
      injection this with this
      exact this.symm
    subst hxv
    have k3 := k2.new hT (.tup [.int (i : Nat), .str parts[i]])
    have kk := (Kp.refl [] H2).new hT (.tup [.int (i : Nat), .str parts[i]])
    refine ⟨Tt, _, rfl, SqT.of upd_same, rfl, _, _, rfl, _, _, rfl, rfl, rfl, ?_⟩
    have hm : parts[i] ∈ parts := List.getElem_mem hi
    have hb := sm1 _ hm
    refine ⟨_, rfl, _, rfl, _, _, rfl, rfl, parts[i], i + 1, rfl, by omega, by omega, fun H4 a tl k34 ha htl L4 => ?_⟩
    have k04 := k3.trans k34
    have hD3 := kk.at0 hD2
    have hD4 : H4 D = some (.lst (ps.map fun q => .ref q.1)) := k34.at0 hD3
    have L3 := L2'.kp0 kk
    have L4' : RdsA H H4 (ps ++ [(a, tl, (toks parts[i], i + 1))]) := by
      have old : ∀ q ∈ ps, q.1 ≠ a ∧ q.2.1 ≠ a ∧ q.1 ≠ tl := fun q hq => by
        obtain ⟨h1, _⟩ := L3.all q hq
        exact ⟨Ne.symm (h1.ne ha).1, Ne.symm (h1.ne ha).2, Ne.symm (h1.ne htl).1⟩
      obtain ⟨_, ntl, _⟩ := L4.ex
      refine ⟨?_, fun p' hp' q' hq' => ?_, fun q hq => ?_⟩
      · rw [List.map_append]
        refine nd_snoc L3.nd fun hm => ?_
        obtain ⟨q, hq, e⟩ := List.mem_map.mp hm
        exact (old q hq).1 e
      · rcases List.mem_append.mp hp' with hp' | hp' <;> rcases List.mem_append.mp hq' with hq' | hq'
        · exact L3.sep p' hp' q' hq'
        · simp at hq'
          subst hq'
          exact (old p' hp').2.2
        · simp at hp'
          subst hp'
          exact Ne.symm (old q' hq').2.1
        · simp at hp' hq'
          subst hp' hq'
          exact Ne.symm ntl
      · rcases List.mem_append.mp hq with hq | hq
        · exact (L3.kp0 k34).all q hq
        · simp at hq
          subst hq
          exact ⟨L4, k3.fresh ha⟩
    have nt4 : ∀ q ∈ ps ++ [(a, tl, (toks parts[i], i + 1))], D ≠ q.1 ∧ D ≠ q.2.1 := by
      intro q hq
      rcases List.mem_append.mp hq with hq | hq
      · exact nt q hq
      · simp at hq
        subst hq
        exact ⟨ne_of_none hD3 ha, ne_of_none hD3 htl⟩
    refine ⟨_, hD4, ?_, ps ++ [(a, tl, (toks parts[i], i + 1))], k04.upN hD0 _, by rw [upd_ne pD]; exact k34.at0 (kk.at0 hp2), by rw [upd_same, List.map_append]; rfl, L4'.other hD4 nt4, ?_, nt4⟩
    · have := congrArg List.length e2
      rw [List.length_map, linesOf_len, List.length_take] at this
      rw [List.length_map, sizeLine_eq]
      omega
    · rw [List.map_append, e2, List.take_succ, List.getElem?_eq_getElem hi]
      show _ = linesOf 0 (parts.take i ++ [parts[i]])
      rw [linesOf_app, List.length_take, Nat.min_eq_left (Nat.le_of_lt hi), Nat.zero_add]
      rfl
  · obtain ⟨ps, k2, hp2, hD2, L2', e2, nt⟩ := hP
    rw [List.take_length] at e2
    -- the lines that hold something
    refine ⟨_, rfl, D, rfl, ⟨_, SqL.of hD2⟩, fun G hG => ?_⟩
    have hG0 := k2.fresh hG
    have DG : D ≠ G := ne_of_none hD2 hG
    refine lc_by ps.length (fun i H3 => Kp [] H H3 ∧ H3 D = some (.lst (ps.map fun q => .ref q.1)) ∧ RdsA H H3 ps ∧ H3 G = some (.lst (((ps.take i).filter fun q => !decide (tk q.2.2.1 0 = "")).map fun q => .ref q.1)))
      ⟨k2.new hG _, by rw [upd_ne DG]; exact hD2, L2'.kp0 ((Kp.refl [] H2).new hG _), upd_same⟩ (fun i H3 hi hP => ?_) (fun H3 hP => ?_) (fun i v H3 H4 hi hP hy => ?_) (fun H3 hP => ?_)
    · exact ⟨_, .ref ps[i].1, SqL.of hP.2.1, by rw [List.getElem?_map, List.getElem?_eq_getElem hi]; rfl⟩
    · exact ⟨_, SqL.of hP.2.1, by rw [List.length_map]; exact Nat.le_refl _⟩
    · obtain ⟨k3, hD3, L3, hG3⟩ := hP
      have nt3 : ∀ q ∈ ps, G ≠ q.1 ∧ G ≠ q.2.1 := fun q hq => (L2'.all q hq).1.ne hG
      obtain ⟨rfl, hx2⟩ := hy
      have hv : v = .ref ps[i].1 := by
        have := hx2 _ (SqL.of hD3)
        rw [List.getElem?_map, List.getElem?_eq_getElem hi] at this
        injection this with this
        exact this.symm
      subst hv
      obtain ⟨Li, _⟩ := L3.all ps[i] (List.getElem_mem hi)
      have et : ps.take (i + 1) = ps.take i ++ [ps[i]] := by
        rw [List.take_succ, List.getElem?_eq_getElem hi]
        rfl
      refine ⟨rfl, _, rfl, _, _, _, _, _, rfl, Li, rfl, _, rfl, ?_⟩
      have hc : (!decide (V.str (tk ps[i].2.2.1 0) = V.str "")) = !decide (tk ps[i].2.2.1 0 = "") := by
        congr 1
        exact decide_eq_decide.mpr ⟨fun z => by injection z, fun z => by rw [z]⟩
      refine ite2 (fun h5 => ?_) (fun h5 => ?_)
      · have h5' : (!decide (tk ps[i].2.2.1 0 = "")) = true := by rw [← hc]; exact h5
        refine ⟨_, rfl, _, hG3, ?_, k3.upN hG0 _, by rw [upd_ne DG]; exact hD3, L3.other hG3 nt3, ?_⟩
        · rw [List.length_map]
          have a1 := List.length_filter_le (fun q : RdP => !decide (tk q.2.2.1 0 = "")) (ps.take i)
          rw [List.length_take] at a1
          have a2 := congrArg List.length e2
          rw [List.length_map, linesOf_len] at a2
          rw [sizeLine_eq]
          omega
        · rw [upd_same, et, List.filter_append, List.map_append]
          congr 2
          simp [h5']
      · have h5' : (!decide (tk ps[i].2.2.1 0 = "")) = false := by
          rw [← hc]
          exact Bool.not_eq_true _ |>.mp h5
        refine ⟨k3, hD3, L3, ?_⟩
        rw [hG3, et, List.filter_append]
        congr 2
        simp [h5']
    · obtain ⟨k3, hD3, L3, hG3⟩ := hP
      have nt3 : ∀ q ∈ ps, G ≠ q.1 ∧ G ≠ q.2.1 := fun q hq => (L2'.all q hq).1.ne hG
      rw [List.take_length] at hG3
      refine fin H3 G _ k3 hG0 hG3 ⟨?_, fun p hp q hq => L3.sep p (List.mem_filter.mp hp).1 q (List.mem_filter.mp hq).1, fun q hq => L3.all q (List.mem_filter.mp hq).1⟩ ?_ (fun q hq => nt3 q (List.mem_filter.mp hq).1)
      · exact List.Nodup.sublist (List.Sublist.map _ List.filter_sublist) L3.nd
      · unfold linesM fullL
        rw [hp, ← e2, List.filter_map]
        rfl
end T65
end
section
/-! W22: the law's read_road. -/
namespace T65
open PySem PySem.Spec PyProof.Rows L2
def ritem (ps : List Nat) (i : Nat) (x : Str) : Option PyData :=
  if i = 0 then (if letterM x = true then some (.str x) else none)
  else if i = 3 then (match figsM x 1000000 with
    | some n => some (.int (n : Nat))
    | none => none)
  else (match placeM ps x with
    | some n => some (.int (n : Nat))
    | none => none)
structure RItems (ps : List Nat) (T : TkL) (i : Nat) (ds : List PyData) : Prop where
  len : ds.length = i
  all : ∀ j d, ds[j]? = some d → ritem ps j (tk T (1 + j)) = some d
theorem RItems.snoc {ps : List Nat} {T : TkL} {i : Nat} {ds : List PyData} {d : PyData} (h : RItems ps T i ds) (e : ritem ps i (tk T (1 + i)) = some d) : RItems ps T (i + 1) (ds ++ [d]) := by
  refine ⟨by rw [List.length_append, h.len]; rfl, fun j d' hj => ?_⟩
  by_cases hl : j < ds.length
  · rw [List.getElem?_append_left hl] at hj
    exact h.all j d' hj
  · have hj2 : j = ds.length := by
      have := (List.getElem?_eq_some_iff.mp hj).1
      rw [List.length_append, List.length_singleton] at this
      omega
    subst hj2
    rw [List.getElem?_append_right (Nat.le_refl _), Nat.sub_self] at hj
    simp at hj
    subst hj
    rw [h.len]
    exact e
theorem roadM_items (ps : List Nat) (T : TkL) : roadM ps T = match ritem ps 0 (tk T 1) with
    | none => .error (cl T 1)
    | some d0 => match ritem ps 1 (tk T 2) with
      | none => .error (cl T 2)
      | some d1 => match ritem ps 2 (tk T 3) with
        | none => .error (cl T 3)
        | some d2 => match ritem ps 3 (tk T 4) with
          | none => .error (cl T 4)
          | some d3 => if tk T 5 = "" then .ok (.tuple [d0, d1, d2, d3]) else .error (cl T 5) := by
  unfold roadM ritem
  simp only [show (0 = 0) = True by simp, show (1 = 0) = False by simp, show (1 = 3) = False by simp, show (2 = 0) = False by simp, show (2 = 3) = False by simp, show (3 = 0) = False by simp, if_true, if_false]
  by_cases hl : letterM (tk T 1) = true
  · rw [if_pos hl, if_pos hl]
    cases placeM ps (tk T 2) with
    | none => rfl
    | some a =>
      dsimp only
      cases placeM ps (tk T 3) with
      | none => rfl
      | some b =>
        dsimp only
        cases figsM (tk T 4) 1000000 with
        | none => rfl
        | some c => rfl
  · rw [if_neg hl, if_neg hl]
theorem road_err {ps : List Nat} {T : TkL} {i : Nat} {ds : List PyData} (h : RItems ps T i ds) (hi : i < 4) (e : ritem ps i (tk T (1 + i)) = none) : roadM ps T = .error (cl T (1 + i)) := by
  rw [roadM_items]
  have hl := h.len
  match i, ds, hl, hi with
  | 0, [], _, _ => rw [show ritem ps 0 (tk T 1) = none from e]
  | 1, [d0], _, _ =>
    rw [show ritem ps 0 (tk T 1) = some d0 from h.all 0 d0 rfl]
    dsimp only
    rw [show ritem ps 1 (tk T 2) = none from e]
  | 2, [d0, d1], _, _ =>
    rw [show ritem ps 0 (tk T 1) = some d0 from h.all 0 d0 rfl]
    dsimp only
    rw [show ritem ps 1 (tk T 2) = some d1 from h.all 1 d1 rfl]
    dsimp only
    rw [show ritem ps 2 (tk T 3) = none from e]
  | 3, [d0, d1, d2], _, _ =>
    rw [show ritem ps 0 (tk T 1) = some d0 from h.all 0 d0 rfl]
    dsimp only
    rw [show ritem ps 1 (tk T 2) = some d1 from h.all 1 d1 rfl]
    dsimp only
    rw [show ritem ps 2 (tk T 3) = some d2 from h.all 2 d2 rfl]
    dsimp only
    rw [show ritem ps 3 (tk T 4) = none from e]
theorem road_ok {ps : List Nat} {T : TkL} {ds : List PyData} (h : RItems ps T 4 ds) : roadM ps T = if tk T 5 = "" then .ok (.tuple ds) else .error (cl T 5) := by
  rw [roadM_items]
  have hl := h.len
  match ds, hl with
  | [d0, d1, d2, d3], _ =>
    rw [show ritem ps 0 (tk T 1) = some d0 from h.all 0 d0 rfl]
    dsimp only
    rw [show ritem ps 1 (tk T 2) = some d1 from h.all 1 d1 rfl]
    dsimp only
    rw [show ritem ps 2 (tk T 3) = some d2 from h.all 2 d2 rfl]
    dsimp only
    rw [show ritem ps 3 (tk T 4) = some d3 from h.all 3 d3 rfl]
theorem ritem_ne {ps : List Nat} {i : Nat} {x : Str} {d : PyData} (h : ritem ps i x = some d) : x ≠ "" := fun z => by
  rw [z] at h
  unfold ritem at h
  rw [letterM_nil, show figsM "" 1000000 = none from rfl, show placeM ps "" = none from rfl] at h
  split at h
  · cases h
  · split at h <;> cases h
def roadL (ps : List Nat) (T : TkL) (m : Nat) : Except Nat PyData := if tk T 0 = "road" ∧ m < 200 then roadM ps T else .error (cl T 0)
def spLRoad (K : PySem.W.Frag) : Sp := fun vs H Q _ => ∃ (a tl pl : Addr) (T : TkL) (n m : Nat) (ps : List Nat), vs = [.ref a, .ref pl, .int (m : Nat)] ∧ RdA H a tl T n ⟨0, 0, 0⟩ ∧ pl ≠ a ∧ H pl = some (.lst (nsV ps)) ∧ m ≤ 200 ∧ tk T 1 ≠ "syntax" ∧
  ∀ (H' : Hp) (v : V), Kp [a] H H' → TD H' v (outN n (roadL ps T m)) → Q v H'
theorem ok_law_read_road {P : Program} {w : World} {K : PySem.W.Frag} {mg : Str → Option Value} {base : Heap} {C S f : Addr} {fd : FuncData} (g : G65 K mg C S) (F : Fn K "_law_read_road" s_law_read_road f fd) (gF : mg "_law_read_road" = some (.ref f))
    (c_law_next : Cal P w K mg base CX0 1 "_law_next" p_law_next spNext) (c_law_fail : Cal P w K mg base CX0 1 "_law_fail" p_law_fail spFail) (c_law_is_letter : Cal P w K mg base CX0 1 "_law_is_letter" p_law_is_letter spLetter) (c_law_integer_in : Cal P w K mg base CX0 1 "_law_integer_in" p_law_integer_in spFigs)
    (c_law_whole : Cal P w K mg base CX0 2 "_law_whole" p_law_whole spWhole) : Cal P w K mg base CX0 3 "_law_read_road" p_law_read_road (spLRoad K) := by
  refine cal_of F gF sc_law_read_road (fun vs H Q E h => by obtain ⟨a, tl, pl, T, n, m, ps, rfl, _⟩ := h; rfl) (fun cdv A outer s H vs Q E hr h => ⟨_,
      (pss_cons (ps_if (PW.pt (pw_or (pt_cmpR op_ne (pe_cal c_law_next hr pass0 (pa_cons (pv 0) pa_nil)) pe_str (nomark _)) (pw_or1 (pt_cmpR op_eq (pv 2) pe_int (nomark _)))))
        (pss_one (ps_ret (pe_cal c_law_fail hr pass0 (pa_cons (pv 0) pa_nil))))
        pss_nil)
      (pss_cons (ps_asg (pe_tup (pa_cons (pe_op op_add (pe_ix (r := rIxL K) ix_list (pv 0) pe_int (fun _ _ => rfl)) pe_int) (pa_cons (pe_lst pa_nil) pa_nil))) (pg_tup rfl (pgs_cons (pg_sub (pv 0) pe_int set_list) (pgs_cons (pg_name (i := 3) sc_law_read_road.nd rfl (by first | exact Or.inl rfl | exact Or.inr rfl)) pgs_nil))))
      (pss_cons (ps_for (passes_of rfl) rfl (pi_range1 rfl g.range (pa_cons pe_int pa_nil)) (pg_name (i := 4) sc_law_read_road.nd rfl (by first | exact Or.inl rfl | exact Or.inr rfl))
        (pss_cons (ps_set (i := 5) sc_law_read_road.nd rfl (by first | exact Or.inl rfl | exact Or.inr rfl) (pe_cal c_law_next hr pass0 (pa_cons (pv 0) pa_nil)))
        (pss_cons (ps_set (i := 6) sc_law_read_road.nd rfl (by first | exact Or.inl rfl | exact Or.inr rfl) (pe_cal c_law_integer_in hr pass0 (pa_cons (pv 5) (pa_cons (pe_op op_pow pe_int pe_int) pa_nil))))
        (pss_cons (ps_set (i := 7) sc_law_read_road.nd rfl (by first | exact Or.inl rfl | exact Or.inr rfl) (pe_ifExp (pt_cmpR op_eq (pv 4) pe_int (nomark _)) (pe_cal c_law_is_letter hr pass0 (pa_cons (pv 5) pa_nil)) (pe_and (pe_cmpR op_notN (pv 6) pe_non (nomark _)) (pe_one (pe_or (pe_cmpR op_eq (pv 4) pe_int (nomark _)) (pe_one (pe_cmpR op_in_seq (pv 6) (pv 1) (by with_unfolding_all rfl))))))))
        (pss_cons (ps_if (pt_not (pt_val (pv 7)))
          (pss_one (ps_ret (pe_cal c_law_fail hr pass0 (pa_cons (pv 0) pa_nil))))
          pss_nil)
        (pss_cons (ps_expr (pe_bm PySem.F.plainAttrs_list PySem.F.slot_list_append PySem.F.type_list_append mt_append (pv 3) (pa_cons (pe_ifExp (pt_cmpR op_eq (pv 4) pe_int (nomark _)) (pv 5) (pv 6)) pa_nil)))
        (pss_one (ps_asg (pe_op op_add (pe_ix (r := rIxL K) ix_list (pv 0) pe_int (fun _ _ => rfl)) pe_int) (pg_sub (pv 0) pe_int set_list)))))))))
      (pss_one (ps_ret (pe_cal c_law_whole hr pass0 (pa_cons (pv 0) (pa_cons (pe_callTy call_tuple_of rfl g.tuple rfl (pa_cons (pv 3) pa_nil)) pa_nil)))))))), ?_⟩) (fun _ _ _ _ _ _ us hl => match us, hl with | [_, _, _], _ => rfl)
  obtain ⟨a, tl, pl, T, n, m, ps, rfl, L, hpa, hpl, hm, hsy, q⟩ := h
  have fail : ∀ (H2 : Hp) (s2 : PSt) (σ : L2.St), σ[0]? = some (some (.ref a)) → Kp [a] H H2 → RdA H2 a tl T n s2 → roadL ps T m = .error (cl T s2.p) → tCall spFail [] E0 (tCons (tVar 0) tNil) σ H2 Q := by
    intro H2 s2 σ s0 k2 L2' e
    rw [e] at q
    exact ⟨_, s0, a, tl, T, n, s2, rfl, L2', fun H3 v k3 t3 => q H3 v (k2.trans k3.any) t3⟩
  refine ⟨_, rfl, a, tl, T, n, _, rfl, L, rfl, _, rfl, ite2 (fun h4 => ?_) (fun h4 => ?_)⟩
  · have h4' : tk T 0 ≠ "road" := by simpa using h4
    exact fail H ⟨0, 0, 0⟩ _ rfl (Kp.refl _ _) L (if_neg fun z => h4' z.1)
  · have h4' : tk T 0 = "road" := by simpa using h4
    refine ⟨_, rfl, rfl, _, rfl, ite2 (fun h5 => ?_) (fun h5 => ?_)⟩
    · have h5' : m = 200 := by
        have : V.int (m : Nat) = V.int 200 := of_decide_eq_true h5
        injection this with this
        omega
      exact fail H ⟨0, 0, 0⟩ _ rfl (Kp.refl _ _) L (if_neg fun z => by omega)
    · have h5' : m < 200 := by
        have : m ≠ 200 := fun z => h5 (decide_eq_true (by rw [z]; rfl))
        omega
      have el : roadL ps T m = roadM ps T := if_pos ⟨h4', h5'⟩
      obtain ⟨us, i0, i1, i2, i3⟩ := L.ex
      refine ⟨_, rfl, a, _, 2, .int 0, rfl, rfl, SqL.of i1, rfl, _, _, rfl, rfl, Nat.zero_le _, fun qf hq => ⟨(by show 2 ≤ sizeLine; decide), fun pt hpt => ?_⟩⟩
      have kq := (Kp.refl [] H).new hq (.lst [])
      have kp := kq.new hpt (.tup [.int (0 + 1), .ref qf])
      have L4 := L.kp0 kp
      obtain ⟨us4, l0, l1, l2, l3⟩ := L4.ex
      obtain ⟨hqa, hql⟩ := L.ne hq
      have qpt : qf ≠ pt := ne_of_none upd_same hpt
      refine ⟨pt, _, rfl, SqT.of upd_same, rfl, _, _, rfl, _, rfl, a, _, 2, 2, rfl, rfl, l1, rfl, _, _, rfl, rfl, ?_⟩
      have L5 := L4.mv (s' := ⟨1, 0, 0⟩) l0 l1 l2 l3 (L.ok.last _ L.lt (by show tk T 0 ≠ ""; rw [h4']; decide))
      have k5 := (kp.any (S := [a])).upR (List.mem_singleton.mpr rfl) L.chg (.lst [.ref tl, .int n, .int 1, .int 0, .int 0])
      have hpq : pl ≠ qf := ne_of_none hpl hq
      have hppt : pl ≠ pt := ne_of_none (by rw [upd_ne hpq]; exact hpl) hpt
      refine ⟨4, rfl, by decide, by decide, ?_⟩
      refine for_by 4 (fun i σ H6 => ∃ (svs : List V) (sds : List PyData) (s6 : PSt) (e4 e5 e6 e7 : Option V), σ = [some (.ref a), some (.ref pl), some (.int (m : Nat)), some (.ref qf), e4, e5, e6, e7] ∧ Kp [a] H H6 ∧ RdA H6 a tl T n s6 ∧ s6.p = 1 + i ∧ H6 pl = some (.lst (nsV ps)) ∧ H6 qf = some (.lst svs) ∧ TDs H6 svs sds ∧ RItems ps T i sds)
        ⟨[], [], ⟨1, 0, 0⟩, none, none, none, none, rfl, k5, L5, rfl, by rw [upd_ne hpa, upd_ne hppt, upd_ne hpq]; exact hpl, by rw [upd_ne hqa, upd_ne qpt, upd_same], .nil, rfl, fun j d z => by simp at z⟩ (fun i σ H6 hi _ => hi) (fun σ H6 _ => Nat.le_refl _) (fun i v σ H6 H7 hi hP hy => ?_) (fun σ H6 hP => ?_)
      · obtain ⟨svs, sds, s6, e4, e5, e6, e7, rfl, k6, L6, hp6, hpl6, hq6, hsd6, hok⟩ := hP
        obtain ⟨rfl, rfl⟩ := hy
        have hword : tk T s6.p = tk T (1 + i) := by rw [hp6]
        have key : ∀ (H8 : Hp) (v : V) (d : PyData), ritem ps i (tk T (1 + i)) = some d → Kp [] H7 H8 → TD H8 v d → ∀ (D : Ends), D.rt = Q →
            D.nx = (fun σ H6 => ∃ (svs : List V) (sds : List PyData) (s6 : PSt) (e4 e5 e6 e7 : Option V), σ = [some (.ref a), some (.ref pl), some (.int (m : Nat)), some (.ref qf), e4, e5, e6, e7] ∧ Kp [a] H H6 ∧ RdA H6 a tl T n s6 ∧ s6.p = 1 + (i + 1) ∧ H6 pl = some (.lst (nsV ps)) ∧ H6 qf = some (.lst svs) ∧ TDs H6 svs sds ∧ RItems ps T (i + 1) sds) →
            ∀ (e4 e5 e6 e7 : Option V), ∃ l xs y, V.ref qf = .ref l ∧ [v] = [y] ∧ H8 l = some (.lst xs) ∧ xs.length < sizeLine ∧
              tAsg (tOp (rI0 fun i j => .int (i + j)) (tOp (rIxL K) (tVar 0) (tC (.int 2))) (tC (.int 1))) (gSub (tVar 0) (tC (.int 2)) rSetL) D [some (.ref a), some (.ref pl), some (.int (m : Nat)), some (.ref qf), e4, e5, e6, e7] (upd H8 l (.lst (xs ++ [y]))) := by
          intro H8 v d hit k8 t8 D hrt hnx e4 e5 e6 e7
          have L8 := L6.kp0 k8
          have hs8 := k8.at0 hq6
          have L9 := L8.other (us' := svs ++ [v]) hqa hql hs8
          obtain ⟨us9, m0, m1, m2, m3⟩ := L9.ex
          refine ⟨qf, _, _, rfl, rfl, hs8, ?_, ?_⟩
          · have := hsd6.len
            have := hok.len
            rw [sizeLine_eq]
            omega
          · refine ⟨_, rfl, a, _, 2, .int s6.p, rfl, rfl, SqL.of m1, rfl, _, _, rfl, rfl, _, rfl, a, _, 2, 2, rfl, rfl, m1, rfl, ?_⟩
            rw [hnx]
            have hne := ritem_ne hit
            rw [← hp6] at hne
            have k9 := (k6.trans k8.any).upN hq (.lst (svs ++ [v]))
            have tq : Tu (upd H8 qf (.lst (svs ++ [v]))) (upd (upd H8 qf (.lst (svs ++ [v]))) a (.lst [.ref tl, .int n, .int ((s6.p : Nat) + 1), .int s6.r, .int s6.l])) := fun b xs e => by rw [upd_ne (ne_of e m1 (by simp))]; exact e
            refine ⟨svs ++ [v], sds ++ [d], ⟨s6.p + 1, s6.r, s6.l⟩, _, _, _, _, rfl, k9.upR (List.mem_singleton.mpr rfl) L.chg _, L9.mv (s' := ⟨s6.p + 1, s6.r, s6.l⟩) m0 m1 m2 m3 (L.ok.last _ L6.lt hne), by show s6.p + 1 = _; omega, ?_, ?_, ?_, hok.snoc hit⟩
            · rw [upd_ne hpa, upd_ne hpq]
              exact k8.at0 hpl6
            · rw [upd_ne hqa, upd_same]
            · exact (((hsd6.tu k8.tu).app (TDs.one t8)).tu (Tu.lst hs8)).tu tq
        have ferr : ∀ (H8 : Hp) (σ8 : L2.St), σ8[0]? = some (some (.ref a)) → Kp [] H7 H8 → ritem ps i (tk T (1 + i)) = none → tCall spFail [] E0 (tCons (tVar 0) tNil) σ8 H8 Q := by
          intro H8 σ8 s0 k8 hit
          exact fail H8 s6 σ8 s0 (k6.trans k8.any) (L6.kp0 k8) (by rw [el, road_err hok hi hit, hp6])
        refine ⟨_, rfl, a, tl, T, n, s6, rfl, L6, ?_⟩
        refine ⟨_, rfl, 10, 6, rfl, rfl, ⟨by decide, by decide, by decide⟩, _, 1000000, rfl, L6.ok.small _, .inr (.inr rfl), fun H8 k8 => ?_⟩
        rw [hword]
        by_cases h0 : i = 0
        · subst h0
          have hit : ritem ps 0 (tk T (1 + 0)) = if letterM (tk T (1 + 0)) = true then some (.str (tk T (1 + 0))) else none := if_pos rfl
          refine ⟨_, rfl, rfl, _, rfl, ?_⟩
          refine ite2 (fun _ => ?_) (fun z => absurd rfl z)
          refine ⟨_, rfl, _, rfl, (by have := L6.ok.small (1 + 0); exact this), fun H9 k9 => ⟨_, rfl, _, rfl, ?_⟩⟩
          have k79 := k8.trans k9
          cases hlm : letterM (tk T (1 + 0)) with
          | false =>
            rw [hlm] at hit
            refine ite2 (fun _ => ?_) (fun z => absurd rfl z)
            exact ferr H9 _ rfl k79 hit
          | true =>
            rw [hlm] at hit
            refine ite2 (fun z => by cases z) (fun _ => ?_)
            refine ⟨_, rfl, .inl ⟨rfl, _, SqL.of (k79.at0 hq6)⟩, _, rfl, rfl, _, rfl, ?_⟩
            refine ite2 (fun _ => ?_) (fun z => absurd rfl z)
            exact ⟨_, rfl, key H9 _ _ hit k79 (.str _) _ rfl rfl _ _ _ _⟩
        · have hd0 : ¬ (decide (V.int (0 + (i : Nat)) = V.int 0) = true) := fun z => h0 (by
            have := of_decide_eq_true z
            injection this with this
            omega)
          refine ⟨_, rfl, rfl, _, rfl, ?_⟩
          refine ite2 (fun z => absurd z hd0) (fun _ => ?_)
          refine ⟨_, rfl, rfl, _, rfl, ?_⟩
          cases hfig : figsM (tk T (1 + i)) 1000000 with
          | none =>
            have hit : ritem ps i (tk T (1 + i)) = none := by
              unfold ritem placeM
              rw [if_neg h0, hfig]
              split <;> rfl
            refine ite2 (fun z => by cases z) (fun _ => ?_)
            refine ⟨_, rfl, _, rfl, ?_⟩
            refine ite2 (fun _ => ?_) (fun z => absurd rfl z)
            exact ferr H8 _ rfl k8 hit
          | some i1 =>
            refine ite2 (fun _ => ?_) (fun z => absurd (by show (!decide (V.int (i1 : Nat) = V.non)) = true; simp) z)
            refine ⟨_, rfl, rfl, _, rfl, ?_⟩
            by_cases h3 : i = 3
            · have hit : ritem ps i (tk T (1 + i)) = some (.int (i1 : Nat)) := by
                unfold ritem
                rw [if_neg h0, if_pos h3, hfig]
              refine ite2 (fun _ => ?_) (fun z => absurd (decide_eq_true (by rw [h3]; rfl)) z)
              refine ⟨_, rfl, _, rfl, ?_⟩
              refine ite2 (fun z => by cases z) (fun _ => ?_)
              refine ⟨_, rfl, .inl ⟨rfl, _, SqL.of (k8.at0 hq6)⟩, _, rfl, rfl, _, rfl, ?_⟩
              refine ite2 (fun z => absurd z hd0) (fun _ => ?_)
              exact ⟨_, rfl, key H8 _ _ hit k8 (.int _) _ rfl rfl _ _ _ _⟩
            · refine ite2 (fun z => absurd (by
                have := of_decide_eq_true z
                injection this with this
                omega) h3) (fun _ => ?_)
              refine ⟨_, rfl, _, rfl, pl, _, rfl, .inl (SqL.of (k8.at0 hpl6)), rfl, flat_ints ps, _, rfl, ?_⟩
              have hin : (if false = true then !inV (optI (some i1)) (nsV ps) else inV (optI (some i1)) (nsV ps)) = decide (i1 ∈ ps) := in_ints i1 ps
              rw [hin]
              by_cases hmem : i1 ∈ ps
              · have hit : ritem ps i (tk T (1 + i)) = some (.int (i1 : Nat)) := by
                  unfold ritem placeM
                  rw [if_neg h0, if_neg h3, hfig]
                  show (match (if i1 ∈ ps then some i1 else none) with
                    | some n => some (PyData.int (n : Nat))
                    | none => none) = _
                  rw [if_pos hmem]
                refine ⟨_, rfl, ?_⟩
                refine ite2 (fun z => by rw [decide_eq_true hmem] at z; cases z) (fun _ => ?_)
                refine ⟨_, rfl, .inl ⟨rfl, _, SqL.of (k8.at0 hq6)⟩, _, rfl, rfl, _, rfl, ?_⟩
                refine ite2 (fun z => absurd z hd0) (fun _ => ?_)
                exact ⟨_, rfl, key H8 _ _ hit k8 (.int _) _ rfl rfl _ _ _ _⟩
              · have hit : ritem ps i (tk T (1 + i)) = none := by
                  unfold ritem placeM
                  rw [if_neg h0, if_neg h3, hfig]
                  show (match (if i1 ∈ ps then some i1 else none) with
                    | some n => some (PyData.int (n : Nat))
                    | none => none) = _
                  rw [if_neg hmem]
                refine ⟨_, rfl, ?_⟩
                refine ite2 (fun _ => ?_) (fun z => absurd (by rw [decide_eq_false hmem]; rfl) z)
                exact ferr H8 _ rfl k8 hit
      · obtain ⟨svs, sds, s6, e4, e5, e6, e7, rfl, k6, L6, hp6, hpl6, hq6, hsd6, hok⟩ := hP
        have er := road_ok hok
        rw [el, er] at q
        refine ⟨_, rfl, _, rfl, qf, _, rfl, .inl ⟨SqL.of hq6, fun p8 hp8 => ?_⟩⟩
        have kk := (Kp.refl [] H6).new hp8 (.tup svs)
        have td : TD (upd H6 p8 (.tup svs)) (.ref p8) (.tuple sds) := TD.tup upd_same (hsd6.tu kk.tu)
        have hl4 := hok.len
        obtain ⟨d0, d1, d2, d3, rfl⟩ : ∃ d0 d1 d2 d3, sds = [d0, d1, d2, d3] := by
          match sds, hl4 with
          | [d0, d1, d2, d3], _ => exact ⟨_, _, _, _, rfl⟩
        have h0 : ritem ps 0 (tk T 1) = some d0 := hok.all 0 d0 rfl
        have hd0 : d0 = .str (tk T 1) := by
          unfold ritem at h0
          rw [if_pos rfl] at h0
          split at h0
          · injection h0 with h0
            exact h0.symm
          · cases h0
        have hpb : probB (.tuple [d0, d1, d2, d3]) = false := by
          rw [hd0]
          show (tk T 1 == ("syntax" : Str)) = false
          simpa using hsy
        refine ⟨a, .ref p8, _, rfl, td, .inr ⟨_, d1, [d2, d3], by rw [hd0]⟩, (fun z => by rw [hpb] at z; cases z), fun _ => ⟨tl, T, n, s6, L6.kp0 kk, fun hz H9 k9 => ?_, fun hz H9 v k9 t9 => ?_⟩⟩
        · rw [hp6] at hz
          replace hz : tk T 5 = "" := hz
          rw [if_pos hz] at q
          exact q H9 _ (k6.trans (kk.trans k9).any) (td.tu k9.tu)
        · rw [hp6] at hz t9
          replace hz : tk T 5 ≠ "" := hz
          rw [if_neg hz] at q
          exact q H9 v (k6.trans (kk.trans k9).any) t9
end T65
end
section
/-! W23: the law's read_net. -/
namespace T65
open PySem PySem.Spec PyProof.Rows L2
/-- no road's letter is the word that marks a problem -/
def NoSyn (x : Str) : Prop := ∀ q ∈ (linesM x).tail, tk q.1 1 ≠ "syntax"
def spLNet : Sp := fun vs H Q _ => ∃ x : Str, vs = [.str x] ∧ x.length < 2 ^ 17 ∧ NoSyn x ∧ ∀ (H' : Hp) (v : V), Kp [] H H' → TD H' v (outD (netM x)) → Q v H'
theorem netM_cons {x : Str} {T : TkL} {n : Nat} {r : Lns} (e : linesM x = (T, n) :: r) : netM x = if tk T 0 = "places" then (match placesM T T.length [] 1 with
    | .error c => .error (n, c)
    | .ok ps => match roadsM ps r [] with
      | .error e => .error e
      | .ok ds => .ok (.tuple [tupI ps, .tuple (sortD ds)])) else .error (n, cl T 0) := by
  unfold netM
  rw [e]
  all_goals rfl
theorem roadsM_L (ps : List Nat) (T : TkL) (n : Nat) (r : Lns) (ds : List PyData) : roadsM ps ((T, n) :: r) ds = match roadL ps T ds.length with
    | .error c => .error (n, c)
    | .ok d => roadsM ps r (ds ++ [d]) := by
  unfold roadL
  rw [roadsM]
  split
  · rfl
  · rfl
theorem roadL_ok {ps : List Nat} {T : TkL} {m : Nat} {d : PyData} (h : roadL ps T m = .ok d) (hs : tk T 1 ≠ "syntax") : RoadD d ∧ Told d ∧ probB d = false := by
  unfold roadL at h
  split at h
  · have hr := roadM_road h
    refine ⟨hr, ?_⟩
    unfold roadM at h
    split at h
    · split at h
      · cases h
      · split at h
        · cases h
        · split at h
          · cases h
          · split at h
            · cases h
              refine ⟨.inr ⟨_, _, _, rfl⟩, ?_⟩
              show (tk T 1 == ("syntax" : Str)) = false
              simpa using hs
            · cases h
    · cases h
  · cases h
theorem ok_law_read_net {P : Program} {w : World} {K : PySem.W.Frag} {mg : Str → Option Value} {base : Heap} {C S f : Addr} {fd : FuncData} (g : G65 K mg C S) (F : Fn K "_law_read_net" s_law_read_net f fd) (gF : mg "_law_read_net" = some (.ref f))
    (c_law_line_readers : Cal P w K mg base CX0 3 "_law_line_readers" p_law_line_readers spReaders) (c_law_next : Cal P w K mg base CX0 1 "_law_next" p_law_next spNext) (c_law_fail : Cal P w K mg base CX0 1 "_law_fail" p_law_fail spFail) (c_law_integer_in : Cal P w K mg base CX0 1 "_law_integer_in" p_law_integer_in spFigs)
    (c_law_is_problem : Cal P w K mg base CX0 1 "_law_is_problem" p_law_is_problem spIsProb) (c_law_read_road : Cal P w K mg base CX0 3 "_law_read_road" p_law_read_road (spLRoad K)) : Cal P w K mg base CX0 4 "_law_read_net" p_law_read_net spLNet := by
  refine cal_of F gF sc_law_read_net (fun vs H Q E h => by obtain ⟨x, rfl, _⟩ := h; rfl) (fun cdv A outer s H vs Q E hr h => ⟨_,
      (pss_cons (ps_set (i := 1) sc_law_read_net.nd rfl (by first | exact Or.inl rfl | exact Or.inr rfl) (pe_cal c_law_line_readers hr pass0 (pa_cons (pv 0) pa_nil)))
      (pss_cons (ps_if (pt_cmpR (op_eqNil (hu64 hr)) (pv 1) (pe_lst pa_nil) (nomark _))
        (pss_one (ps_ret (pe_tup (pa_cons pe_str (pa_cons (pe_op op_add (pe_callB call_len rfl g.len rfl (pa_cons (pe_split (pv 0) pe_str) pa_nil)) pe_int) (pa_cons pe_int pa_nil))))))
        pss_nil)
      (pss_cons (ps_par3 (i := 2) (j := 3) (l := 4) rfl sc_law_read_net.nd rfl rfl rfl (by decide) (by decide) (by decide) rfl rfl rfl (pa_cons (pe_ix (r := rIxL K) ix_list (pv 1) pe_int (fun _ _ => rfl)) (pa_cons (pe_lst pa_nil) (pa_cons (pe_lst pa_nil) pa_nil))) rfl)
      (pss_cons (ps_if (pt_cmpR op_ne (pe_cal c_law_next hr pass0 (pa_cons (pv 2) pa_nil)) pe_str (nomark _))
        (pss_one (ps_ret (pe_cal c_law_fail hr pass0 (pa_cons (pv 2) pa_nil))))
        pss_nil)
      (pss_cons (ps_asg (pe_op op_add (pe_ix (r := rIxL K) ix_list (pv 2) pe_int (fun _ _ => rfl)) pe_int) (pg_sub (pv 2) pe_int set_list))
      (pss_cons (ps_while (passes_of rfl) (pt_cmpR op_ne (pe_cal c_law_next hr pass0 (pa_cons (pv 2) pa_nil)) pe_str (nomark _))
        (pss_cons (ps_set (i := 5) sc_law_read_net.nd rfl (by first | exact Or.inl rfl | exact Or.inr rfl) (pe_cal c_law_integer_in hr pass0 (pa_cons (pe_cal c_law_next hr pass0 (pa_cons (pv 2) pa_nil)) (pa_cons (pe_op op_pow pe_int pe_int) pa_nil))))
        (pss_cons (ps_if (PW.pt (pw_or (pt_cmpR op_isN (pv 5) pe_non (nomark _)) (pw_or (PW.pt (pw_and (pt_cmpR (op_neNil (hu64 hr)) (pv 3) (pe_lst pa_nil) (nomark _)) (pw_and1 (pt_cmpR op_ge (pe_ix (r := rIxL K) ix_list (pv 3) (pe_un un_neg pe_int) (fun _ _ => rfl)) (pv 5) (nomark _))))) (pw_or1 (pt_cmpR op_eq (pe_callB call_len rfl g.len rfl (pa_cons (pv 3) pa_nil)) pe_int (nomark _))))))
          (pss_one (ps_ret (pe_cal c_law_fail hr pass0 (pa_cons (pv 2) pa_nil))))
          pss_nil)
        (pss_cons (ps_expr (pe_bm PySem.F.plainAttrs_list PySem.F.slot_list_append PySem.F.type_list_append mt_append (pv 3) (pa_cons (pv 5) pa_nil)))
        (pss_one (ps_asg (pe_op op_add (pe_ix (r := rIxL K) ix_list (pv 2) pe_int (fun _ _ => rfl)) pe_int) (pg_sub (pv 2) pe_int set_list)))))))
      (pss_cons (ps_for (passes_of rfl) rfl (pi_listK (K := K) rfl (pe_slice (r := rSlL K) sl_list (pv 1) (po_some pe_int) po_none)) (pg_name (i := 2) sc_law_read_net.nd rfl (by first | exact Or.inl rfl | exact Or.inr rfl))
        (pss_cons (ps_set (i := 6) sc_law_read_net.nd rfl (by first | exact Or.inl rfl | exact Or.inr rfl) (pe_cal c_law_read_road hr pass0 (pa_cons (pv 2) (pa_cons (pv 3) (pa_cons (pe_callB call_len rfl g.len rfl (pa_cons (pv 4) pa_nil)) pa_nil)))))
        (pss_cons (ps_if (pt_val (pe_cal c_law_is_problem hr pass0 (pa_cons (pv 6) pa_nil)))
          (pss_one (ps_ret (pv 6)))
          pss_nil)
        (pss_one (ps_expr (pe_bm PySem.F.plainAttrs_list PySem.F.slot_list_append PySem.F.type_list_append mt_append (pv 4) (pa_cons (pv 6) pa_nil)))))))
      (pss_one (ps_ret (pe_tup (pa_cons (pe_callTy call_tuple_of rfl g.tuple rfl (pa_cons (pv 3) pa_nil)) (pa_cons (pe_callTy call_tuple_of rfl g.tuple rfl (pa_cons (pe_callB (cr_sortedT (hu64 hr)) rfl g.sorted rfl (pa_cons (pv 4) pa_nil)) pa_nil)) pa_nil)))))))))))), ?_⟩) (fun _ _ _ _ _ _ us hl => match us, hl with | [_], _ => rfl)
  obtain ⟨x, rfl, hx, hns, q⟩ := h
  have hs2 : x.length + 2 ≤ sizeLine := by rw [sizeLine_eq]; omega
  obtain ⟨sm1, sm2⟩ := split_small x
  refine ⟨_, rfl, x, rfl, hx, fun H1 l ps k1 hl hl1 L1 e1 nt => ?_⟩
  refine ⟨_, rfl, Nat.zero_le _, fun p hp => ⟨l, p, ps.map fun q => .ref q.1, rfl, rfl, ?_, SqL.of upd_same, _, rfl, ?_⟩⟩
  · exact SqL.of (by rw [upd_ne (ne_of_none hl1 hp)]; exact hl1)
  have kk := (Kp.refl [] H1).new hp (.lst [])
  have k2 := k1.trans kk
  have L2' := L1.kp0 kk
  have hl2 := kk.at0 hl1
  cases ps with
  | nil =>
    refine ⟨_, rfl, ⟨x, rfl⟩, _, _, rfl, rfl, by decide +kernel, hs2, fun p2 hp2 => ⟨_, _, rfl, .inl ⟨_, SqL.of upd_same, rfl⟩, _, _, rfl, rfl, (by show 3 ≤ sizeLine; decide), fun p3 hp3 => ?_⟩⟩
    have en : netM x = .error ((Txt.split x "\n").length + 1, 1) := by
      unfold netM
      rw [← e1]
      rfl
    rw [en] at q
    refine q _ _ ((k2.new hp2 _).new hp3 _) ?_
    refine TD.tup upd_same (.cons (.str _) (.cons ?_ (TDs.one (.int _))))
    rw [List.length_map]
    exact .int _
  | cons p0 rest =>
    obtain ⟨a0, tl0, T0, n0⟩ := p0
    have enet := netM_cons (T := T0) (n := n0) (r := rest.map (·.2.2)) (x := x) (by rw [← e1]; rfl)
    have hns' : ∀ q ∈ rest, tk q.2.2.1 1 ≠ "syntax" := fun q hq => hns q.2.2 (by
      rw [← e1]
      exact List.mem_map_of_mem hq)
    obtain ⟨L0, ha00⟩ := L2'.all _ (List.mem_cons_self ..)
    replace L0 : RdA (upd H1 p (.lst [])) a0 tl0 T0 n0 ⟨0, 0, 0⟩ := L0
    replace ha00 : H a0 = none := ha00
    have la0 : l ≠ a0 ∧ l ≠ tl0 := nt _ (List.mem_cons_self ..)
    refine ⟨_, rfl, l, _, 0, .ref a0, rfl, rfl, SqL.of hl2, atI_nat (j := 0) rfl, Nat.zero_le _, fun pp hpp => ⟨Nat.zero_le _, fun rq hrq => ⟨_, _, _, rfl, ?_⟩⟩⟩
    have kp1 := (Kp.refl [] _).new hpp (.lst [])
    have kp2 := kp1.new hrq (.lst [])
    have L3 := L0.kp0 kp2
    have k3 := k2.trans kp2
    have hl3 := kp2.at0 hl2
    have Ls3 := L2'.kp0 kp2
    have ppr : pp ≠ rq := ne_of_none upd_same hrq
    have hpp3 : (upd (upd (upd H1 p (.lst [])) pp (.lst [])) rq (.lst [])) pp = some (.lst []) := by rw [upd_ne ppr, upd_same]
    have hrq3 : (upd (upd (upd H1 p (.lst [])) pp (.lst [])) rq (.lst [])) rq = some (.lst []) := upd_same
    have npp : ∀ q ∈ ((a0, tl0, T0, n0) :: rest : List RdP), pp ≠ q.1 ∧ pp ≠ q.2.1 := fun q hq => (L2'.all q hq).1.ne hpp
    have nrq : ∀ q ∈ ((a0, tl0, T0, n0) :: rest : List RdP), rq ≠ q.1 ∧ rq ≠ q.2.1 := fun q hq => ((L2'.kp0 kp1).all q hq).1.ne hrq
    have hpp0 := k2.fresh hpp
    have hrq0 := (k2.trans kp1).fresh hrq
    generalize hH3 : upd (upd (upd H1 p (HO.lst [])) pp (HO.lst [])) rq (HO.lst []) = H3 at L3 k3 hl3 Ls3 hpp3 hrq3
    have fail : ∀ (H2 : Hp) (a tl : Addr) (T : TkL) (n : Nat) (s2 : PSt) (σ : L2.St) (i : Nat), σ[i]? = some (some (.ref a)) → Kp [] H H2 → RdA H2 a tl T n s2 → netM x = .error (n, cl T s2.p) → tCall spFail [] E0 (tCons (tVar i) tNil) σ H2 Q := by
      intro H2 a tl T n s2 σ i s0 k2 L2' e
      rw [e] at q
      exact ⟨_, s0, a, tl, T, n, s2, rfl, L2', fun H3 v k3 t3 => q H3 v (k2.trans k3) t3⟩
    refine ⟨_, rfl, a0, tl0, T0, n0, _, rfl, L3, rfl, _, rfl, ite2 (fun h4 => ?_) (fun h4 => ?_)⟩
    · have h4' : tk T0 0 ≠ "places" := by simpa using h4
      exact fail H3 a0 tl0 T0 n0 _ _ _ rfl k3 L3 (by rw [enet, if_neg h4'])
    · have h4' : tk T0 0 = "places" := by simpa using h4
      rw [if_pos h4'] at enet
      obtain ⟨us3, i0, i1, i2, i3⟩ := L3.ex
      refine ⟨_, rfl, a0, _, 2, .int 0, rfl, rfl, SqL.of i1, rfl, _, _, rfl, rfl, _, rfl, a0, _, 2, 2, rfl, rfl, i1, rfl, ?_⟩
      have L4 := L3.mv (s' := ⟨1, 0, 0⟩) i0 i1 i2 i3 (L3.ok.last _ L3.lt (by show tk T0 0 ≠ ""; rw [h4']; decide))
      have ka := (Kp.refl [a0] H3).upR (List.mem_singleton.mpr rfl) L3.chg (.lst [.ref tl0, .int n0, .int 1, .int 0, .int 0])
      dsimp only
      refine seq_Z fun Z hZ => ?_
      generalize hR : placesM T0 T0.length [] 1 = R at enet
      have el : (((a0, tl0, T0, n0) :: rest : List RdP).map fun q => V.ref q.1) = .ref a0 :: rest.map fun q => .ref q.1 := rfl
      -- the places
      have endZ : ∀ (H5 : Hp) (pl : List Nat) (e5 e6 : Option V), R = .ok pl → Kp [] H H5 → H5 pp = some (.lst (nsV pl)) → H5 rq = some (.lst []) → H5 l = some (.lst (((a0, tl0, T0, n0) :: rest : List RdP).map fun q => .ref q.1)) → RdsA H H5 rest →
          Z [some (.str x), some (.ref l), some (.ref a0), some (.ref pp), some (.ref rq), e5, e6] H5 := by
        intro H5 pl e5 e6 eR k5 hpp5 hrq5 hl5 Ls5
        rw [hZ]
        rw [eR] at enet
        replace enet : netM x = match roadsM pl (rest.map (·.2.2)) [] with
          | .error e => .error e
          | .ok ds => .ok (.tuple [tupI pl, .tuple (sortD ds)]) := enet
        generalize hR2 : roadsM pl (rest.map (·.2.2)) [] = R2 at enet
        refine ⟨_, rfl, _, rfl, l, _, rfl, SqL.of hl5, fun l2 hl2' => ⟨l2, rfl, ⟨_, SqL.of upd_same⟩, ?_⟩⟩
        rw [cut1]
        have k6 := (Kp.refl [] H5).new hl2' (.lst (List.drop 1 (((a0, tl0, T0, n0) :: rest : List RdP).map fun q => V.ref q.1)))
        have rl2 : rq ≠ l2 := ne_of_none hrq5 hl2'
        have nl2 : ∀ q ∈ rest, l2 ≠ q.1 := fun q hq => ((Ls5.all q hq).1.ne hl2').1
        refine for_by rest.length (fun i σ H6 => ∃ (vs : List V) (ds : List PyData) (e2 e5 e6 : Option V), σ = [some (.str x), some (.ref l), e2, some (.ref pp), some (.ref rq), e5, e6] ∧ Kp [] H H6 ∧ H6 pp = some (.lst (nsV pl)) ∧ H6 rq = some (.lst vs) ∧ TDs H6 vs ds ∧ (∀ d ∈ ds, RoadD d) ∧ H6 l2 = some (.lst (rest.map fun q => .ref q.1)) ∧ RdsA H H6 (rest.drop i) ∧ roadsM pl ((rest.drop i).map (·.2.2)) ds = R2 ∧ ds.length ≤ 200)
          ⟨[], [], _, e5, e6, rfl, k5.trans k6, k6.at0 hpp5, k6.at0 hrq5, .nil, fun d hd => by simp at hd, upd_same, Ls5.kp0 k6, hR2, Nat.zero_le _⟩ (fun i σ H6 hi hP => ?_) (fun σ H6 hP => ?_) (fun i v σ H6 H7 hi hP hy => ?_) (fun σ H6 hP => ?_)
        · obtain ⟨_, _, _, _, _, _, _, _, _, _, _, h7, _⟩ := hP
          exact ⟨_, .ref rest[i].1, SqL.of h7, by rw [List.getElem?_map, List.getElem?_eq_getElem hi]; rfl⟩
        · obtain ⟨_, _, _, _, _, _, _, _, _, _, _, h7, _⟩ := hP
          exact ⟨_, SqL.of h7, by rw [List.length_map]; exact Nat.le_refl _⟩
        · obtain ⟨vs, ds, e2, e5, e6, rfl, k6, hpp6, hq6, hd6, hrd, hl6, Ls6, he, h200⟩ := hP
          obtain ⟨rfl, hx2⟩ := hy
          have hv : v = .ref rest[i].1 := by
            have := hx2 _ (SqL.of hl6)
            rw [List.getElem?_map, List.getElem?_eq_getElem hi] at this
            injection this with this
            exact this.symm
          subst hv
          have hmem : rest[i] ∈ rest := List.getElem_mem hi
          have hsy := hns' _ hmem
          have n1 := npp _ (List.mem_cons_of_mem _ hmem)
          have n2 := nrq _ (List.mem_cons_of_mem _ hmem)
          have n3 := nl2 _ hmem
          rw [List.drop_eq_getElem_cons hi] at Ls6 he
          obtain ⟨⟨a, tl, T, n⟩, hp0⟩ : ∃ p0 : RdP, rest[i] = p0 := ⟨_, rfl⟩
          rw [hp0] at Ls6 he hsy n1 n2 n3 ⊢
          obtain ⟨La, ha0⟩ := Ls6.all _ (List.mem_cons_self ..)
          replace La : RdA H7 a tl T n ⟨0, 0, 0⟩ := La
          replace ha0 : H a = none := ha0
          replace he : roadsM pl ((T, n) :: (rest.drop (i + 1)).map (·.2.2)) ds = R2 := he
          rw [roadsM_L] at he
          have lenv := hd6.len
          refine ⟨_, rfl, _, rfl, _, rfl, _, _, rfl, .inl ⟨_, SqL.of hq6, rfl⟩, a, tl, pp, T, n, vs.length, pl, rfl, La, n1.1, hpp6, by omega, hsy, fun H8 v k8 t8 => ?_⟩
          rw [lenv] at t8
          have k08 := k6.loc ha0 k8
          cases er : roadL pl T ds.length with
          | error c =>
            rw [er] at he t8
            refine ⟨_, rfl, v, probD n c, rfl, t8, told_prob _ _, fun H9 k9 => ⟨_, rfl, ?_⟩⟩
            rw [prob_prob]
            refine ⟨_, rfl, q H9 v (k08.trans k9) ?_⟩
            rw [enet, ← he]
            exact t8.tu k9.tu
          | ok d =>
            obtain ⟨hrd8, htd, hpb⟩ := roadL_ok er hsy
            rw [er] at he t8
            replace t8 : TD H8 v d := t8
            replace he : roadsM pl ((rest.drop (i + 1)).map (·.2.2)) (ds ++ [d]) = R2 := he
            refine ⟨_, rfl, v, _, rfl, t8, htd, fun H9 k9 => ⟨_, rfl, ?_⟩⟩
            rw [hpb]
            have hq9 : H9 rq = some (.lst vs) := k9.at0 (k8.at_ hq6 (by simpa using n2.1))
            have h200' : ds.length < 200 := by
              unfold roadL at er
              split at er
              · next z => exact z.2
              · cases er
            refine ⟨_, rfl, .inl ⟨rfl, _, SqL.of hq9⟩, _, rfl, rq, _, _, rfl, rfl, hq9, by rw [sizeLine_eq]; omega, ?_⟩
            have Ls9 : RdsA H H9 (rest.drop (i + 1)) := (Ls6.mv k8).kp0 k9
            refine ⟨vs ++ [v], ds ++ [d], _, _, _, rfl, (k08.trans k9).upN hrq0 _, ?_, upd_same, ?_, ?_, ?_, Ls9.other hq9 (fun q hq => nrq q (List.mem_cons_of_mem _ (List.mem_of_mem_drop hq))), he, ?_⟩
            · rw [upd_ne ppr]
              exact k9.at0 (k8.at_ hpp6 (by simpa using n1.1))
            · exact ((((hd6.tu k8.tu).app (TDs.one t8)).tu k9.tu)).tu (Tu.lst hq9)
            · intro d' hd'
              rcases List.mem_append.mp hd' with hd' | hd'
              · exact hrd d' hd'
              · simp at hd'
                rw [hd']
                exact hrd8
            · rw [upd_ne (Ne.symm rl2)]
              exact k9.at0 (k8.at_ hl6 (by simpa using n3))
            · rw [List.length_append]
              show ds.length + 1 ≤ 200
              omega
        · obtain ⟨vs, ds, e2, e5, e6, rfl, k6, hpp6, hq6, hd6, hrd, hl6, Ls6, he, h200⟩ := hP
          rw [List.drop_length] at he
          replace he : (.ok ds : Except (Nat × Nat) (List PyData)) = R2 := he
          rw [← he] at enet
          replace enet : netM x = .ok (.tuple [tupI pl, .tuple (sortD ds)]) := enet
          rw [enet] at q
          refine ⟨_, rfl, pp, _, rfl, .inl ⟨SqL.of hpp6, fun t ht => ?_⟩⟩
          have k7 := (Kp.refl [] H6).new ht (.tup (nsV pl))
          have hq7 := k7.at0 hq6
          refine ⟨_, rfl, rq, vs, ds, rfl, SqL.of hq7, hd6.tu k7.tu, road_alike hrd, road_sortable hrd, road_depth hrd, fun p3 ys hys hp3 => ⟨p3, ys, rfl, .inl ⟨SqL.of upd_same, fun p4 hp4 => ⟨(by show 2 ≤ sizeLine; decide), fun p5 hp5 => ?_⟩⟩⟩⟩
          have k8 := (Kp.refl [] _).new hp3 (.lst ys)
          have k9 := k8.new hp4 (.tup ys)
          have k10 := k9.new hp5 (.tup [.ref t, .ref p4])
          refine q _ _ ((k6.trans k7).trans k10) (TD.tup upd_same (.cons ?_ (TDs.one ?_)))
          · exact TD.tup (k10.at0 upd_same) (TDs.nats pl)
          · have kp := (Kp.refl [] _).new hp5 (.tup [.ref t, .ref p4])
            exact TD.tup (kp.at0 upd_same) (((hys.tu (Tu.new hp3)).tu (Tu.new hp4)).tu (Tu.new hp5))
      have Ls4 : RdsA H (upd H3 a0 (.lst [.ref tl0, .int n0, .int 1, .int 0, .int 0])) rest := Ls3.mv ka
      have np0 := npp _ (List.mem_cons_self ..)
      have nr0 := nrq _ (List.mem_cons_self ..)
      refine ⟨fun m σ H5 => ∃ (s5 : PSt) (pl : List Nat) (e5 e6 : Option V), σ = [some (.str x), some (.ref l), some (.ref a0), some (.ref pp), some (.ref rq), e5, e6] ∧ Kp [] H H5 ∧ RdA H5 a0 tl0 T0 n0 s5 ∧ H5 pp = some (.lst (nsV pl)) ∧ H5 rq = some (.lst []) ∧ H5 l = some (.lst (((a0, tl0, T0, n0) :: rest : List RdP).map fun q => .ref q.1)) ∧ RdsA H H5 rest ∧ T0.length ≤ s5.p + m ∧ placesM T0 m pl s5.p = R ∧ pl.length ≤ s5.p ∧ pl.length ≤ 64,
        ⟨T0.length, ⟨1, 0, 0⟩, [], none, none, rfl, k3.loc ha00 ka, L4, ka.at_ hpp3 (by simpa using np0.1), ka.at_ hrq3 (by simpa using nr0.1), ka.at_ hl3 (by simpa using la0.1), Ls4, by show _ ≤ 1 + _; omega, hR, Nat.zero_le _, Nat.zero_le _⟩, ?_⟩
      rintro m σ H5 ⟨s5, pl, e5, e6, rfl, k5, L5, hpp5, hrq5, hl5, Ls5, hfu, he, hle, h64⟩
      have lt5 := L5.lt
      obtain ⟨m', rfl⟩ : ∃ m', m = m' + 1 := ⟨m - 1, by omega⟩
      unfold placesM at he
      refine ⟨_, rfl, a0, tl0, T0, n0, s5, rfl, L5, rfl, _, rfl, ite2 (fun h6 => ?_) (fun h6 => ?_)⟩
      · have h6' : tk T0 s5.p ≠ "" := by simpa using h6
        rw [if_neg h6'] at he
        refine ⟨_, fun σ' H' z => z, ?_⟩
        refine ⟨_, rfl, a0, tl0, T0, n0, s5, rfl, L5, 10, 6, rfl, rfl, ⟨by decide, by decide, by decide⟩, _, 1000000, rfl, L5.ok.small _, .inr (.inr rfl), fun H6 k6 => ⟨_, rfl, rfl, _, rfl, ?_⟩⟩
        have L6 := L5.kp0 k6
        have k06 := k5.trans k6
        have hpp6 := k6.at0 hpp5
        have bad : ∀ (H7 : Hp) (σ : L2.St), σ[2]? = some (some (.ref a0)) → Kp [] H6 H7 → (.error (cl T0 s5.p) : Except Nat (List Nat)) = R → tCall spFail [] E0 (tCons (tVar 2) tNil) σ H7 Q := by
          intro H7 σ s0 k7 e
          exact fail H7 a0 tl0 T0 n0 s5 σ 2 s0 (k06.trans k7) (L6.kp0 k7) (by rw [enet, ← e])
        cases hfig : figsM (tk T0 s5.p) 1000000 with
        | none =>
          rw [hfig] at he
          refine ite2 (fun _ => ?_) (fun z => absurd rfl z)
          exact bad H6 _ rfl (Kp.refl _ _) he
        | some i1 =>
          rw [hfig] at he
          replace he : (if (pl = [] ∨ pl.getD (pl.length - 1) 0 < i1) ∧ pl.length < 64 then placesM T0 m' (pl ++ [i1]) (s5.p + 1) else .error (cl T0 s5.p)) = R := he
          refine ite2 (fun z => absurd z (by show ¬ (decide (V.int (i1 : Nat) = V.non)) = true; simp)) (fun _ => ?_)
          refine ⟨_, rfl, Nat.zero_le _, fun p7 hp7 => ⟨pp, p7, nsV pl, rfl, rfl, SqL.of (by rw [upd_ne (ne_of_none hpp6 hp7)]; exact hpp6), SqL.of upd_same, _, rfl, ?_⟩⟩
          have k7 := (Kp.refl [] H6).new hp7 (.lst [])
          have L7 := L6.kp0 k7
          have hpp7 := k7.at0 hpp6
          have k07 := k06.trans k7
          -- the last test and the store
          have fin : (pl = [] ∨ pl.getD (pl.length - 1) 0 < i1) → ∀ (D : Ends), D.rt = Q → (D.nx = fun σ H5 => ∃ m'', m'' < m' + 1 ∧ ∃ (s5 : PSt) (pl : List Nat) (e5 e6 : Option V), σ = [some (.str x), some (.ref l), some (.ref a0), some (.ref pp), some (.ref rq), e5, e6] ∧ Kp [] H H5 ∧ RdA H5 a0 tl0 T0 n0 s5 ∧ H5 pp = some (.lst (nsV pl)) ∧ H5 rq = some (.lst []) ∧ H5 l = some (.lst (((a0, tl0, T0, n0) :: rest : List RdP).map fun q => .ref q.1)) ∧ RdsA H H5 rest ∧ T0.length ≤ s5.p + m'' ∧ placesM T0 m'' pl s5.p = R ∧ pl.length ≤ s5.p ∧ pl.length ≤ 64) →
              (tTest (tOp rEq (tCB (fun xs H Q => ∃ x n, xs = [x] ∧ LenV K x H n ∧ Q (.int n) H) (tCons (tVar 3) tNil)) (tC (.int 64)))) [some (.str x), some (.ref l), some (.ref a0), some (.ref pp), some (.ref rq), some (.int (i1 : Nat)), e6] (upd H6 p7 (.lst [])) fun b H1 => if b = true then
                tCall spFail [] E0 (tCons (tVar 2) tNil) [some (.str x), some (.ref l), some (.ref a0), some (.ref pp), some (.ref rq), some (.int (i1 : Nat)), e6] H1 Q else
                tSeq (tDrop (tBM K "list" rAppend (tVar 3) (tCons (tVar 5) tNil))) (tAsg (tOp (rI0 fun i j => .int (i + j)) (tOp (rIxL K) (tVar 2) (tC (.int 2))) (tC (.int 1))) (gSub (tVar 2) (tC (.int 2)) rSetL)) D [some (.str x), some (.ref l), some (.ref a0), some (.ref pp), some (.ref rq), some (.int (i1 : Nat)), e6] H1 := by
            intro hlast D hrt hnx
            refine ⟨_, rfl, _, _, rfl, .inl ⟨_, SqL.of hpp7, rfl⟩, rfl, _, rfl, ite2 (fun h8 => ?_) (fun h8 => ?_)⟩
            · have h8' : pl.length = 64 := by
                have : V.int ((nsV pl).length : Nat) = V.int 64 := of_decide_eq_true h8
                injection this with this
                rw [List.length_map] at this
                omega
              rw [if_neg (fun z => by omega)] at he
              exact bad _ _ rfl k7 he
            · have h8' : pl.length < 64 := by
                have : pl.length ≠ 64 := fun z => h8 (decide_eq_true (by rw [List.length_map, z]; rfl))
                omega
              rw [if_pos ⟨hlast, h8'⟩] at he
              have L8 := L7.other (us' := nsV pl ++ [.int (i1 : Nat)]) np0.1 np0.2 hpp7
              obtain ⟨us8, j0, j1, j2, j3⟩ := L8.ex
              have k08 := k07.upN hpp0 (.lst (nsV pl ++ [.int (i1 : Nat)]))
              have Ls8 : RdsA H (upd (upd H6 p7 (.lst [])) pp (.lst (nsV pl ++ [.int (i1 : Nat)]))) rest := ((Ls5.kp0 k6).kp0 k7).other hpp7 (fun q hq => npp q (List.mem_cons_of_mem _ hq))
              have full : RdsA H (upd (upd H6 p7 (.lst [])) pp (.lst (nsV pl ++ [.int (i1 : Nat)]))) rest := Ls8
              refine ⟨_, rfl, .inl ⟨rfl, _, SqL.of hpp7⟩, _, rfl, pp, _, _, rfl, rfl, hpp7, by rw [List.length_map, sizeLine_eq]; omega, ?_⟩
              refine ⟨_, rfl, a0, _, 2, .int s5.p, rfl, rfl, SqL.of j1, rfl, _, _, rfl, rfl, _, rfl, a0, _, 2, 2, rfl, rfl, j1, rfl, ?_⟩
              rw [hnx]
              have kb := (Kp.refl [a0] (upd (upd H6 p7 (.lst [])) pp (.lst (nsV pl ++ [.int (i1 : Nat)])))).upR (List.mem_singleton.mpr rfl) L8.chg (.lst [.ref tl0, .int n0, .int ((s5.p : Nat) + 1), .int s5.r, .int s5.l])
              have LsB : RdsA H (upd (upd (upd H6 p7 (.lst [])) pp (.lst (nsV pl ++ [.int (i1 : Nat)]))) a0 (.lst [.ref tl0, .int n0, .int ((s5.p : Nat) + 1), .int s5.r, .int s5.l])) rest := by
                refine ⟨full.nd, full.sep, fun q hq => ?_⟩
                obtain ⟨h1, h2⟩ := full.all q hq
                have d1 : q.1 ≠ a0 := by
                  obtain ⟨n1, _⟩ := List.nodup_cons.mp (show (a0 :: rest.map (·.1)).Nodup from Ls3.nd)
                  exact fun z => n1 (by rw [← z]; exact List.mem_map_of_mem hq)
                have d2 : q.2.1 ≠ a0 := Ne.symm (Ls3.sep _ (List.mem_cons_self ..) q (List.mem_cons_of_mem _ hq))
                exact ⟨h1.kpO kb d1 d2, h2⟩
              have ppl : pp ≠ l := ne_of_none hl2 hpp |>.symm
              refine ⟨m', Nat.lt_succ_self _, ⟨s5.p + 1, s5.r, s5.l⟩, pl ++ [i1], _, _, rfl, k08.loc ha00 kb, L8.mv (s' := ⟨s5.p + 1, s5.r, s5.l⟩) j0 j1 j2 j3 (L5.ok.last _ L5.lt h6'), ?_, ?_, ?_, LsB, ?_, he, ?_, ?_⟩
              · rw [upd_ne np0.1, upd_same]
                simp [nsV]
              · rw [upd_ne nr0.1, upd_ne (Ne.symm ppr)]
                exact k7.at0 (k6.at0 hrq5)
              · rw [upd_ne la0.1, upd_ne (Ne.symm ppl)]
                exact k7.at0 (k6.at0 hl5)
              · show T0.length ≤ s5.p + 1 + m'
                omega
              · rw [List.length_append]
                show pl.length + 1 ≤ s5.p + 1
                omega
              · rw [List.length_append]
                show pl.length + 1 ≤ 64
                omega
          refine ite2 (fun h8 => ?_) (fun h8 => ?_)
          · have hne : pl ≠ [] := fun z => by
              rw [z] at h8
              cases h8
            refine ⟨_, rfl, _, rfl, pp, _, -1, _, rfl, rfl, SqL.of hpp7, last_at hne, _, rfl, _, _, rfl, rfl, _, rfl, ite2 (fun h9 => ?_) (fun h9 => ?_)⟩
            · have h9' := of_decide_eq_true h9
              rw [if_neg (fun z => by
                rcases z.1 with y | y
                · exact hne y
                · omega)] at he
              exact bad _ _ rfl k7 he
            · have h9' : ¬ ((i1 : Nat) : Int) ≤ ((pl.getD (pl.length - 1) 0 : Nat) : Int) := fun z => h9 (decide_eq_true z)
              exact fin (.inr (by omega)) _ rfl rfl
          · have hnil : pl = [] := by
              cases pl with
              | nil => rfl
              | cons _ _ => exact absurd rfl h8
            exact fin (.inl hnil) _ rfl rfl
      · have h6' : tk T0 s5.p = "" := by simpa using h6
        rw [if_pos h6'] at he
        exact endZ H5 pl e5 e6 he.symm k5 hpp5 hrq5 hl5 Ls5
end T65
end
section
/-! W24: the law's read_book, read. -/
namespace T65
open PySem PySem.Spec PyProof.Rows L2
def spLBook : Sp := fun vs H Q _ => ∃ x : Str, vs = [.str x] ∧ x.length < 2 ^ 17 ∧ ∀ (H' : Hp) (v : V), Kp [] H H' → DD H' v (outD (rdBook x)) → Q v H'
theorem RdA.dic {H : Hp} {a tl d : Addr} {T : TkL} {n : Nat} {s : PSt} {kvs kvs' : List (Key × V)} (L : RdA H a tl T n s) (e : H d = some (.dK kvs)) : RdA (upd H d (.dK kvs')) a tl T n s := by
  obtain ⟨us, i0, i1, i2, i3⟩ := L.ex
  exact ⟨⟨us, i0, by rw [upd_ne (ne_of i1 e (by simp))]; exact i1, by rw [upd_ne (ne_of i2 e (by simp))]; exact i2, i3.tu fun b xs z => by rw [upd_ne (ne_of z e (by simp))]; exact z⟩, L.ok, L.num, L.lt⟩
theorem RdsA.dic {H0 H : Hp} {d : Addr} {ps : List RdP} {kvs kvs' : List (Key × V)} (L : RdsA H0 H ps) (e : H d = some (.dK kvs)) : RdsA H0 (upd H d (.dK kvs')) ps := ⟨L.nd, L.sep, fun q hq => ⟨(L.all q hq).1.dic e, (L.all q hq).2⟩⟩
theorem ok_law_read_book {P : Program} {w : World} {K : PySem.W.Frag} {mg : Str → Option Value} {base : Heap} {C S f : Addr} {fd : FuncData} (g : G65 K mg C S) (F : Fn K "_law_read_book" s_law_read_book f fd) (gF : mg "_law_read_book" = some (.ref f))
    (c_law_line_readers : Cal P w K mg base CX0 3 "_law_line_readers" p_law_line_readers spReaders) (c_law_next : Cal P w K mg base CX0 1 "_law_next" p_law_next spNext) (c_law_fail : Cal P w K mg base CX0 1 "_law_fail" p_law_fail spFail) (c_law_is_name : Cal P w K mg base CX0 1 "_law_is_name" p_law_is_name spName)
    (c_law_is_problem : Cal P w K mg base CX0 1 "_law_is_problem" p_law_is_problem spIsProb) (c_law_whole : Cal P w K mg base CX0 2 "_law_whole" p_law_whole spWhole) (c_law_read_rule : Cal P w K mg base CX0 11 "_law_read_rule" p_law_read_rule (spLRule 8)) :
    Cal P w K mg base CX0 12 "_law_read_book" p_law_read_book spLBook := by
  refine cal_of F gF sc_law_read_book (fun vs H Q E h => by obtain ⟨x, rfl, _⟩ := h; rfl) (fun cdv A outer s H vs Q E hr h => ⟨_,
      (pss_cons (ps_set (i := 1) sc_law_read_book.nd rfl (by first | exact Or.inl rfl | exact Or.inr rfl) pe_dnewK)
      (pss_cons (ps_for (passes_of rfl) rfl (pi_listK (K := K) rfl (pe_cal c_law_line_readers hr pass0 (pa_cons (pv 0) pa_nil))) (pg_name (i := 2) sc_law_read_book.nd rfl (by first | exact Or.inl rfl | exact Or.inr rfl))
        (pss_cons (ps_set (i := 3) sc_law_read_book.nd rfl (by first | exact Or.inl rfl | exact Or.inr rfl) (pe_cal c_law_next hr pass0 (pa_cons (pv 2) pa_nil)))
        (pss_cons (ps_if (PW.pt (pw_or (pt_not (pt_val (pe_cal c_law_is_name hr pass0 (pa_cons (pv 3) pa_nil)))) (pw_or (pt_cmp (pc_din (hu_of hr) (pv 3) (pv 1))) (pw_or1 (pt_cmpR op_eq (pe_callB call_lenD rfl g.len rfl (pa_cons (pv 1) pa_nil)) pe_int (nomark _))))))
          (pss_one (ps_ret (pe_cal c_law_fail hr pass0 (pa_cons (pv 2) pa_nil))))
          pss_nil)
        (pss_cons (ps_asg (pe_op op_add (pe_ix (r := rIxL K) ix_list (pv 2) pe_int (fun _ _ => rfl)) pe_int) (pg_sub (pv 2) pe_int set_list))
        (pss_cons (ps_if (pt_cmpR op_ne (pe_cal c_law_next hr pass0 (pa_cons (pv 2) pa_nil)) pe_str (nomark _))
          (pss_one (ps_ret (pe_cal c_law_fail hr pass0 (pa_cons (pv 2) pa_nil))))
          pss_nil)
        (pss_cons (ps_asg (pe_op op_add (pe_ix (r := rIxL K) ix_list (pv 2) pe_int (fun _ _ => rfl)) pe_int) (pg_sub (pv 2) pe_int set_list))
        (pss_cons (ps_set (i := 4) sc_law_read_book.nd rfl (by first | exact Or.inl rfl | exact Or.inr rfl) (pe_cal c_law_whole hr pass0 (pa_cons (pv 2) (pa_cons (pe_cal c_law_read_rule hr pass0 (pa_cons (pv 2) (pa_cons pe_int pa_nil))) pa_nil))))
        (pss_cons (ps_if (pt_val (pe_cal c_law_is_problem hr pass0 (pa_cons (pv 4) pa_nil)))
          (pss_one (ps_ret (pv 4)))
          pss_nil)
        (pss_one (ps_dput (hu_of hr) (pv 1) (pv 3) (pv 4) rfl))))))))))
      (pss_one (ps_ret (pv 1))))), ?_⟩) (fun _ _ _ _ _ _ us hl => match us, hl with | [_], _ => rfl)
  obtain ⟨x, rfl, hx, q⟩ := h
  have q' : ∀ R, bookM (linesM x) [] = R → ∀ (H' : Hp) (v : V), Kp [] H H' → DD H' v (outD (match R with
      | .error e => .error e
      | .ok nds => .ok (dicD nds))) → Q v H' := fun R e H' v k t => by
    subst e
    exact q H' v k t
  generalize hR : bookM (linesM x) [] = R
  replace q' := q' R hR
  intro d hd
  refine ⟨_, rfl, x, rfl, hx, fun H2 l ps k2 hl hl2 L2' e2 nt => ⟨l, rfl, ⟨_, SqL.of hl2⟩, ?_⟩⟩
  have k02 := ((Kp.refl [] H).new hd (.dK [])).trans k2
  have hd2 : H2 d = some (.dK []) := k2.at0 upd_same
  have L2H : RdsA H H2 ps := ⟨L2'.nd, L2'.sep, fun q hq => ⟨(L2'.all q hq).1, ((Kp.refl [] H).new hd (.dK [])).fresh (L2'.all q hq).2⟩⟩
  have ld : l ≠ d := fun z => by
    rw [z] at hl
    rw [upd_same] at hl
    cases hl
  refine for_by ps.length (fun i σ H3 => ∃ (acc : List (Str × PyData)) (kvs : List (Key × V)) (e2 e3 e4 : Option V), σ = [some (.str x), some (.ref d), e2, e3, e4] ∧ Kp [] H H3 ∧ H3 d = some (.dK kvs) ∧ KD H3 kvs acc ∧ H3 l = some (.lst (ps.map fun q => .ref q.1)) ∧ RdsA H H3 (ps.drop i) ∧ bookM ((ps.drop i).map (·.2.2)) acc = R ∧ acc.length ≤ 8)
    ⟨[], [], none, none, none, rfl, k02, hd2, .nil, hl2, L2H, by rw [List.drop_zero, e2]; exact hR, Nat.zero_le _⟩ (fun i σ H3 hi hP => ?_) (fun σ H3 hP => ?_) (fun i v σ H3 H4 hi hP hy => ?_) (fun σ H3 hP => ?_)
  · obtain ⟨acc, kvs, _, _, _, _, _, _, _, h5, _⟩ := hP
    exact ⟨_, .ref ps[i].1, SqL.of h5, by rw [List.getElem?_map, List.getElem?_eq_getElem hi]; rfl⟩
  · obtain ⟨acc, kvs, _, _, _, _, _, _, _, h5, _⟩ := hP
    exact ⟨_, SqL.of h5, by rw [List.length_map]; exact Nat.le_refl _⟩
  · obtain ⟨acc, kvs, e2', e3', e4', rfl, k3, hd3, kd3, hl3, L3, he, ha8⟩ := hP
    obtain ⟨rfl, hx2⟩ := hy
    have hv : v = .ref ps[i].1 := by
      have := hx2 _ (SqL.of hl3)
      rw [List.getElem?_map, List.getElem?_eq_getElem hi] at this
      injection this with this
      exact this.symm
    subst hv
    have hmem : ps[i] ∈ ps := List.getElem_mem hi
    have nti := nt _ hmem
    rw [List.drop_eq_getElem_cons hi] at L3 he
    obtain ⟨⟨a, tl, T, n⟩, hp0⟩ : ∃ p0 : RdP, ps[i] = p0 := ⟨_, rfl⟩
    rw [hp0] at L3 he nti ⊢
    obtain ⟨La, ha0⟩ := L3.all _ (List.mem_cons_self ..)
    replace La : RdA H4 a tl T n ⟨0, 0, 0⟩ := La
    replace ha0 : H a = none := ha0
    replace nti : l ≠ a ∧ l ≠ tl := nti
    replace he : bookM ((T, n) :: (ps.drop (i + 1)).map (·.2.2)) acc = R := he
    unfold bookM at he
    have klen := kd3.len
    have fail : ∀ (H5 : Hp) (s2 : PSt) (σ : L2.St), σ[2]? = some (some (.ref a)) → Kp [a] H4 H5 → RdA H5 a tl T n s2 → (.error (n, cl T s2.p) : Except (Nat × Nat) (List (Str × PyData))) = R → tCall spFail [] E0 (tCons (tVar 2) tNil) σ H5 Q := by
      intro H5 s2 σ s0 k5 L5 e
      rw [← e] at q'
      exact ⟨_, s0, a, tl, T, n, s2, rfl, L5, fun H6 v k6 t6 => q' H6 v ((k3.loc ha0 k5).trans k6) (.inl t6)⟩
    obtain ⟨us, i0, i1, _, _⟩ := La.ex
    have da : d ≠ a := Ne.symm (ne_of i1 hd3 (by simp))
    refine ⟨_, rfl, a, tl, T, n, _, rfl, La, ?_⟩
    refine ⟨_, rfl, tk T 0, rfl, La.ok.small _, fun H5 k5 => ⟨_, rfl, ?_⟩⟩
    have L5 := La.kp0 k5
    have k05 := k3.trans k5
    have hd5 := k5.at0 hd3
    have kd5 := kd3.tu k5.tu
    have noC : ∀ (σ : L2.St), σ[2]? = some (some (.ref a)) → ¬ (nameM (tk T 0) && !decide (tk T 0 ∈ acc.map (·.1)) && decide (acc.length < 8)) = true → tCall spFail [] E0 (tCons (tVar 2) tNil) σ H5 Q := by
      intro σ s0 hz
      rw [if_neg hz] at he
      exact fail H5 ⟨0, 0, 0⟩ σ s0 k5.any L5 he
    have eg : (valV kvs (.inr (tk T 0))).isSome = decide (tk T 0 ∈ acc.map (·.1)) := by rw [kd5.val]
    refine ite2 (fun h5 => ?_) (fun h5 => ?_)
    · exact noC _ rfl (by rw [show nameM (tk T 0) = false by simpa using h5]; simp)
    · have h5' : nameM (tk T 0) = true := by simpa using h5
      refine ⟨_, rfl, _, rfl, d, _, rfl, DGet.k (k := .inr (tk T 0)) hd5, _, rfl, ite2 (fun h6 => ?_) (fun h6 => ?_)⟩
      · rw [eg] at h6
        exact noC _ rfl (by rw [h6]; simp)
      · rw [eg] at h6
        have h6' : decide (tk T 0 ∈ acc.map (·.1)) = false := Bool.not_eq_true _ |>.mp h6
        refine ⟨_, rfl, d, kvs, rfl, hd5, rfl, _, rfl, ite2 (fun h7 => ?_) (fun h7 => ?_)⟩
        · have h7' : kvs.length = 8 := by
            have : V.int (kvs.length : Nat) = V.int 8 := of_decide_eq_true h7
            injection this with this
            omega
          exact noC _ rfl (by rw [show decide (acc.length < 8) = false from decide_eq_false (by omega)]; simp)
        · have h7' : acc.length < 8 := by
            have : kvs.length ≠ 8 := fun z => h7 (decide_eq_true (by rw [z]; rfl))
            omega
          have hgood : (nameM (tk T 0) && !decide (tk T 0 ∈ acc.map (·.1)) && decide (acc.length < 8)) = true := by
            rw [h5', h6', decide_eq_true h7']
            rfl
          rw [if_pos hgood] at he
          have hne0 : tk T 0 ≠ "" := fun z => by
            rw [z, nameM_nil] at h5'
            cases h5'
          obtain ⟨us5, m0, m1, m2, m3⟩ := L5.ex
          refine ⟨_, rfl, a, _, 2, .int 0, rfl, rfl, SqL.of m1, rfl, _, _, rfl, rfl, _, rfl, a, _, 2, 2, rfl, rfl, m1, rfl, ?_⟩
          have L6 := L5.mv (s' := ⟨1, 0, 0⟩) m0 m1 m2 m3 (L5.ok.last _ L5.lt hne0)
          have k6 := (k5.any (S := [a])).upR (List.mem_singleton.mpr rfl) La.chg (.lst [.ref tl, .int n, .int 1, .int 0, .int 0])
          refine ⟨_, rfl, a, tl, T, n, _, rfl, L6, rfl, _, rfl, ite2 (fun h8 => ?_) (fun h8 => ?_)⟩
          · have h8' : tk T 1 ≠ "=" := by simpa using h8
            rw [if_neg h8'] at he
            exact fail _ ⟨1, 0, 0⟩ _ rfl k6 L6 he
          · have h8' : tk T 1 = "=" := by simpa using h8
            rw [if_pos h8'] at he
            obtain ⟨us6, n0, n1, n2, n3⟩ := L6.ex
            refine ⟨_, rfl, a, _, 2, .int 1, rfl, rfl, SqL.of n1, rfl, _, _, rfl, rfl, _, rfl, a, _, 2, 2, rfl, rfl, n1, rfl, ?_⟩
            have L7 := L6.mv (s' := ⟨2, 0, 0⟩) n0 n1 n2 n3 (L5.ok.last _ L6.lt (by show tk T 1 ≠ ""; rw [h8']; decide))
            have k7 := k6.upR (List.mem_singleton.mpr rfl) La.chg (.lst [.ref tl, .int n, .int 2, .int 0, .int 0])
            refine ⟨_, rfl, _, rfl, a, tl, T, n, ⟨2, 0, 0⟩, 1, rfl, L7, rfl, by decide, ?_⟩
            unfold wholeM at he
            -- a problem is handed on
            have probl : ∀ (H8 : Hp) (v : V) (c : Nat) (e4 : Option V) (D : Ends), D.rt = Q → Kp [a] H4 H8 → TD H8 v (probD n c) → (.error (n, c) : Except (Nat × Nat) (List (Str × PyData))) = R →
                tSeq (tIfS (tB (tCall spIsProb [] E0 (tCons (tVar 4) tNil))) (tRet (tVar 4)) tNext) (sDPut (tVar 1) (tVar 3) (tVar 4)) D [some (.str x), some (.ref d), some (.ref a), some (.str (tk T 0)), some v] H8 := by
              intro H8 v c e4 D hrt k8 t8 e
              refine ⟨_, rfl, v, probD n c, rfl, t8, told_prob _ _, fun H9 k9 => ⟨_, rfl, ?_⟩⟩
              rw [prob_prob]
              refine ⟨_, rfl, ?_⟩
              dsimp only
              rw [hrt]
              rw [← e] at q'
              exact q' H9 v ((k3.loc ha0 k8).trans k9) (.inl (t8.tu k9.tu))
            cases er : ruleM T 8 ⟨2, 0, 0⟩ with
            | error c =>
              rw [er] at he
              intro H8 v k8 t8
              refine ⟨a, v, probD n c, rfl, t8, told_prob _ _, fun _ H9 k9 => ?_, (fun z => by rw [prob_prob] at z; cases z)⟩
              exact probl H9 v c e4' _ rfl ((k7.trans k8).trans k9.any) (t8.tu k9.tu) he
            | ok z =>
              obtain ⟨d8, s8⟩ := z
              obtain ⟨td8, pb8⟩ := ruleM_told er
              rw [er] at he
              replace he : (match (if tk T s8.p = "" then (.ok d8 : Except Nat PyData) else .error (cl T s8.p)) with
                | .error c => (.error (n, c) : Except (Nat × Nat) (List (Str × PyData)))
                | .ok d => bookM ((ps.drop (i + 1)).map (·.2.2)) (acc ++ [(tk T 0, d)])) = R := he
              intro H8 v k8 L8 t8
              refine ⟨a, v, d8, rfl, t8, td8, (fun z => by rw [pb8] at z; cases z), fun _ => ⟨tl, T, n, s8, L8, fun hz H9 k9 => ?_, fun hz H9 v' k9 t9 => ?_⟩⟩
              · rw [if_pos hz] at he
                replace he : bookM ((ps.drop (i + 1)).map (·.2.2)) (acc ++ [(tk T 0, d8)]) = R := he
                have k79 := k7.trans (k8.trans k9.any)
                refine ⟨_, rfl, v, d8, rfl, t8.tu k9.tu, td8, fun H10 k10 => ⟨_, rfl, ?_⟩⟩
                rw [pb8]
                have k710 := k79.trans k10.any
                have k010 := k3.loc ha0 k710
                have hd10 : H10 d = some (.dK kvs) := k710.at_ hd3 (by simpa using da)
                have hl10 : H10 l = some (.lst (ps.map fun q => .ref q.1)) := k710.at_ hl3 (by simpa using nti.1)
                have kd10 := kd3.tu k710.tu
                have L10 : RdsA H H10 (ps.drop (i + 1)) := L3.mv k710
                have t10 : TD H10 v d8 := (t8.tu k9.tu).tu k10.tu
                have hnone : valV kvs (.inr (tk T 0)) = none := by
                  rw [h6'] at eg
                  cases e : valV kvs (.inr (tk T 0)) with
                  | none => rfl
                  | some _ => rw [e] at eg; cases eg
                refine ⟨_, rfl, _, rfl, _, rfl, d, _, rfl, DPut.k (k := .inr (tk T 0)) hd10 (by rw [sizeLine_eq]; omega), acc ++ [(tk T 0, d8)], kvs ++ [(.inr (tk T 0), v)], _, _, _, rfl, ?_, ?_, ?_, ?_, ?_, he, ?_⟩
                · exact k010.upN hd _
                · rw [upd_same, putK_new v hnone]
                · rw [putK_new v hnone]
                  exact (kd10.tu (Tu.dic hd10)).app (.cons (t10.tu (Tu.dic hd10)) .nil)
                · rw [upd_ne ld]
                  exact hl10
                · exact L10.dic hd10
                · rw [List.length_append]
                  show acc.length + 1 ≤ 8
                  omega
              · rw [if_neg hz] at he
                exact probl H9 v' (cl T s8.p) e4' _ rfl ((k7.trans k8).trans k9.any) t9 he
  · obtain ⟨acc, kvs, e2', e3', e4', rfl, k3, hd3, kd3, hl3, L3, he, ha8⟩ := hP
    rw [List.drop_length] at he
    replace he : (.ok acc : Except (Nat × Nat) (List (Str × PyData))) = R := he
    rw [← he] at q'
    exact ⟨_, rfl, q' H3 _ k3 (.inr ⟨d, kvs, acc, rfl, hd3, kd3, rfl⟩)⟩
end T65
end
section
/-! W25: the law's read. -/
namespace T65
open PySem PySem.Spec PyProof.Rows L2
def spLRead : Sp := fun vs H Q _ => ∃ way x : Str, vs = [.str way, .str x] ∧ x.length < 2 ^ 17 ∧ (way = "net" → NoSyn x) ∧ ∀ (H' : Hp) (v : V), Kp [] H H' → DD H' v (outD (readM way x)) → Q v H'
theorem readM_book {x : Str} : readM "book" x = rdBook x := rfl
theorem readM_net {x : Str} : readM "net" x = netM x := rfl
theorem out1 (r : Except Nat PyData) : outN 1 r = outD (at1 r) := by cases r <;> rfl
theorem ok_law_read {P : Program} {w : World} {K : PySem.W.Frag} {mg : Str → Option Value} {base : Heap} {C S f : Addr} {fd : FuncData} (g : G65 K mg C S) (F : Fn K "_law_read" s_law_read f fd) (gF : mg "_law_read" = some (.ref f))
    (c_law_read_book : Cal P w K mg base CX0 12 "_law_read_book" p_law_read_book spLBook) (c_law_read_net : Cal P w K mg base CX0 4 "_law_read_net" p_law_read_net spLNet) (c_law_made_reader : Cal P w K mg base CX0 2 "_law_made_reader" p_law_made_reader spMade)
    (c_law_whole : Cal P w K mg base CX0 2 "_law_whole" p_law_whole spWhole) (c_law_read_rule : Cal P w K mg base CX0 11 "_law_read_rule" p_law_read_rule (spLRule 8)) (c_law_read_route : Cal P w K mg base CX0 2 "_law_read_route" p_law_read_route spLRoute)
    (c_law_read_some : Cal P w K mg base CX0 2 "_law_read_some" p_law_read_some spSome) :
    Cal P w K mg base CX0 13 "_law_read" p_law_read spLRead := by
  refine cal_of F gF sc_law_read (fun vs H Q E h => by obtain ⟨way, x, rfl, _⟩ := h; rfl) (fun cdv A outer s H vs Q E hr h => ⟨_,
      (pss_cons (ps_if (pt_cmpR op_in_seq (pv 0) (pe_tup (pa_cons pe_str (pa_cons pe_str pa_nil))) (by with_unfolding_all rfl))
        (pss_one (ps_ret (pe_ifExp (pt_cmpR op_eq (pv 0) pe_str (nomark _)) (pe_cal c_law_read_book hr pass0 (pa_cons (pv 1) pa_nil)) (pe_cal c_law_read_net hr pass0 (pa_cons (pv 1) pa_nil)))))
        pss_nil)
      (pss_cons (ps_set (i := 2) sc_law_read.nd rfl (by first | exact Or.inl rfl | exact Or.inr rfl) (pe_cal c_law_made_reader hr pass0 (pa_cons (pv 1) (pa_cons pe_int pa_nil))))
      (pss_cons (ps_if (pt_cmpR op_eq (pv 0) pe_str (nomark _))
        (pss_one (ps_ret (pe_cal c_law_whole hr pass0 (pa_cons (pv 2) (pa_cons (pe_cal c_law_read_rule hr pass0 (pa_cons (pv 2) (pa_cons pe_int pa_nil))) pa_nil)))))
        pss_nil)
      (pss_cons (ps_if (pt_cmpR op_eq (pv 0) pe_str (nomark _))
        (pss_one (ps_ret (pe_cal c_law_read_route hr pass0 (pa_cons (pv 2) pa_nil))))
        pss_nil)
      (pss_one (ps_ret (pe_cal c_law_read_some hr pass0 (pa_cons (pv 2) (pa_cons (pe_ifExp (pt_cmpR op_eq (pv 0) pe_str (nomark _)) pe_non pe_int) pa_nil))))))))), ?_⟩) (fun _ _ _ _ _ _ us hl => match us, hl with | [_, _], _ => rfl)
  obtain ⟨way, x, rfl, hx, ns, q⟩ := h
  have eIn : inV (.str way) ((["book", "net"] : List Str).map V.str) = (["book", "net"] : List Str).contains way := inV_strs _ _
  refine ⟨_, rfl, (by show 2 ≤ sizeLine; decide), fun p1 hp1 => ⟨p1, (["book", "net"] : List Str).map V.str, rfl, .inr (SqT.of upd_same), rfl, rfl, ?_⟩⟩
  have k1 := (Kp.refl [] H).new hp1 (.tup ((["book", "net"] : List Str).map V.str))
  rw [eIn]
  refine ⟨_, rfl, ite2 (fun h1 => ?_) (fun h1 => ?_)⟩
  · refine ⟨_, rfl, rfl, _, rfl, ite2 (fun h2 => ?_) (fun h2 => ?_)⟩
    · have h2' : way = "book" := by simpa using h2
      subst h2'
      exact ⟨_, rfl, x, rfl, hx, fun H2 v k2 t => q H2 v (k1.trans k2) t⟩
    · have h2' : way = "net" := by
        have a : way ≠ "book" := by simpa using h2
        have b : way = "book" ∨ way = "net" := by simpa using h1
        exact b.resolve_left a
      subst h2'
      exact ⟨_, rfl, x, rfl, hx, ns rfl, fun H2 v k2 t => q H2 v (k1.trans k2) (.inl t)⟩
  · obtain ⟨n1, n2⟩ : way ≠ "book" ∧ way ≠ "net" := by simpa using h1
    have er : readM way x = if way = "rule" then at1 (rdRule x) else if way = "route" then at1 (rdRoute x) else if way = "word" then at1 (rdWord x) else at1 (rdPos x) := by
      unfold readM
      rw [if_neg n1, if_neg n2]
    rw [er] at q
    refine ⟨_, rfl, x, 1, rfl, by omega, by decide, fun H2 a tl k2 ha htl L => ?_⟩
    have k02 := k1.trans k2
    have hA : H a = none := ((Kp.refl [] H).new hp1 (.tup ((["book", "net"] : List Str).map V.str))).fresh ha
    refine ⟨_, rfl, rfl, _, rfl, ite2 (fun h2 => ?_) (fun h2 => ?_)⟩
    · have h2' : way = "rule" := by simpa using h2
      rw [if_pos h2'] at q
      have q' : ∀ R, ruleM (toks x) 8 ⟨0, 0, 0⟩ = R → ∀ (H' : Hp) (v : V), Kp [] H H' → TD H' v (outD (at1 (match R with
          | .error c => .error c
          | .ok (d, s) => if tk (toks x) s.p = "" then .ok d else .error (cl (toks x) s.p)))) → Q v H' := fun R e H' v k t => by
        subst e
        exact q H' v k (.inl t)
      generalize hR : ruleM (toks x) 8 ⟨0, 0, 0⟩ = R
      replace q' := q' R hR
      refine ⟨_, rfl, _, rfl, a, tl, toks x, 1, ⟨0, 0, 0⟩, 1, rfl, L, rfl, by decide, ?_⟩
      rw [hR]
      cases R with
      | error c =>
        intro H3 v k3 t3
        exact ⟨a, v, probD 1 c, rfl, t3, told_prob _ _, fun _ H4 k4 => q' H4 v ((k02.loc hA k3).trans k4) (t3.tu k4.tu), (fun z => by rw [prob_prob] at z; cases z)⟩
      | ok z =>
        obtain ⟨d8, s8⟩ := z
        obtain ⟨td8, pb8⟩ := ruleM_told hR
        intro H3 v k3 L3 t3
        refine ⟨a, v, d8, rfl, t3, td8, (fun z => by rw [pb8] at z; cases z), fun _ => ⟨tl, toks x, 1, s8, L3, fun hz H4 k4 => ?_, fun hz H4 v' k4 t4 => ?_⟩⟩
        · replace q' : ∀ (H' : Hp) (v : V), Kp [] H H' → TD H' v (outD (at1 (if tk (toks x) s8.p = "" then .ok d8 else .error (cl (toks x) s8.p)))) → Q v H' := q'
          rw [if_pos hz] at q'
          exact q' H4 v ((k02.loc hA k3).trans k4) (t3.tu k4.tu)
        · replace q' : ∀ (H' : Hp) (v : V), Kp [] H H' → TD H' v (outD (at1 (if tk (toks x) s8.p = "" then .ok d8 else .error (cl (toks x) s8.p)))) → Q v H' := q'
          rw [if_neg hz] at q'
          exact q' H4 v' ((k02.loc hA k3).trans k4) t4
    · have h2' : way ≠ "rule" := by simpa using h2
      rw [if_neg h2'] at q
      refine ⟨_, rfl, rfl, _, rfl, ite2 (fun h3 => ?_) (fun h3 => ?_)⟩
      · have h3' : way = "route" := by simpa using h3
        rw [if_pos h3'] at q
        refine ⟨_, rfl, a, tl, toks x, 1, rfl, L, fun H3 v k3 t3 => q H3 v (k02.loc hA k3) (.inl ?_)⟩
        rw [out1] at t3
        exact t3
      · have h3' : way ≠ "route" := by simpa using h3
        rw [if_neg h3'] at q
        refine ⟨_, rfl, _, rfl, rfl, _, rfl, ite2 (fun h4 => ?_) (fun h4 => ?_)⟩
        · have h4' : way = "word" := by simpa using h4
          rw [if_pos h4'] at q
          refine ⟨a, tl, toks x, 1, true, rfl, L, fun H3 v k3 t3 => q H3 v (k02.loc hA k3) (.inl ?_)⟩
          rw [out1] at t3
          exact t3
        · have h4' : way ≠ "word" := by simpa using h4
          rw [if_neg h4'] at q
          refine ⟨a, tl, toks x, 1, false, rfl, L, fun H3 v k3 t3 => q H3 v (k02.loc hA k3) (.inl ?_)⟩
          rw [out1] at t3
          exact t3
end T65
end
section
/-! Mt: the mirror of the written texts, and which things are drawn. -/
namespace T65
open PySem PySem.W TL
abbrev numS (n : Nat) : Str := Str.ofString (toString ((n : Nat) : Int))
def strsD : List PyData → List Str
  | [] => []
  | .str x :: r => x :: strsD r
  | _ :: r => strsD r
def kidsD : PyData → List PyData
  | .tuple ds => ds
  | _ => []
def ruleX : Nat → PyData → Str
  | 0, _ => ""
  | k + 1, d => match d with
    | .tuple [.str kd, e] => if kd = "word" then "word(" ++ Txt.join " " (strsD (kidsD e)) ++ ")" else if kd = "again" then "again(" ++ ruleX k e ++ ")" else kd ++ "(" ++ Txt.join ", " ((kidsD e).map (ruleX k)) ++ ")"
    | _ => ""
def Lts : List Str := ["a", "b", "c", "x@2", "x@10", "x", "a@0"]
/-- rules of k levels at most, as drawn -/
def RK : Nat → PyData → Prop
  | 0, _ => False
  | k + 1, d => (∃ ls : List Str, ls.length ≤ 3 ∧ (∀ l ∈ ls, l ∈ Lts) ∧ d = .tuple [.str "word", tupS ls]) ∨ (∃ e, RK k e ∧ d = .tuple [.str "again", e]) ∨
    ∃ (kd : Str) (ds : List PyData), (kd = "sequence" ∨ kd = "either") ∧ ds.length ≤ 3 ∧ (∀ e ∈ ds, RK k e) ∧ d = .tuple [.str kd, .tuple ds]
theorem strsD_map : ∀ ls : List Str, strsD (ls.map PyData.str) = ls
  | [] => rfl
  | x :: r => by
    show x :: strsD (r.map PyData.str) = _
    rw [strsD_map r]
theorem ruleX_word (k : Nat) (ls : List Str) : ruleX (k + 1) (.tuple [.str "word", tupS ls]) = "word(" ++ Txt.join " " ls ++ ")" := by
  show "word(" ++ Txt.join " " (strsD (ls.map PyData.str)) ++ ")" = _
  rw [strsD_map]
theorem ruleX_again (k : Nat) (e : PyData) : ruleX (k + 1) (.tuple [.str "again", e]) = "again(" ++ ruleX k e ++ ")" := rfl
theorem ruleX_many (k : Nat) {kd : Str} (h : kd = "sequence" ∨ kd = "either") (ds : List PyData) : ruleX (k + 1) (.tuple [.str kd, .tuple ds]) = kd ++ "(" ++ Txt.join ", " (ds.map (ruleX k)) ++ ")" := by
  rcases h with rfl | rfl <;> rfl
theorem Lts_len {l : Str} (h : l ∈ Lts) : l.length ≤ 4 := by
  revert l
  decide +kernel
theorem emp_app (x : Str) : Str.empty ++ x = x := ext_tl (by rw [tl_append]; rfl)
theorem len_join {sep : Str} {n : Nat} : ∀ {l : List Str}, (∀ x ∈ l, x.length ≤ n) → (Txt.join sep l).length ≤ l.length * (n + sep.length)
  | [], _ => Nat.zero_le _
  | a :: r, h => by
    rw [join_eq, PyProof.Rows.len_join_cons, List.map_cons, List.sum_cons, List.length_cons, Nat.add_mul]
    have h1 := h a (List.mem_cons_self ..)
    have h2 : ∀ {l : List Str}, (∀ x ∈ l, x.length ≤ n) → (l.map (·.length)).sum ≤ l.length * n := fun {l} => by
      induction l with
      | nil => exact fun _ => Nat.zero_le _
      | cons b r ih =>
        intro h
        rw [List.map_cons, List.sum_cons, List.length_cons, Nat.add_mul]
        have := ih fun x hx => h x (List.mem_cons_of_mem _ hx)
        have := h b (List.mem_cons_self ..)
        omega
    have h3 := h2 fun x hx => h x (List.mem_cons_of_mem _ hx)
    rw [Nat.mul_add]
    omega
theorem sum_le {n : Nat} : ∀ {l : List Str}, (∀ x ∈ l, x.length ≤ n) → (l.map (·.length)).sum ≤ l.length * n
  | [], _ => Nat.zero_le _
  | b :: r, h => by
    rw [List.map_cons, List.sum_cons, List.length_cons, Nat.add_mul]
    have := sum_le fun x hx => h x (List.mem_cons_of_mem _ hx)
    have := h b (List.mem_cons_self ..)
    omega
def rB : Nat → Nat
  | 0 => 0
  | k + 1 => 3 * rB k + 21
theorem ruleX_len : ∀ {k : Nat} {d : PyData}, RK k d → (ruleX k d).length ≤ rB k
  | 0, _, h => h.elim
  | k + 1, d, h => by
    rcases h with ⟨ls, h1, h2, rfl⟩ | ⟨e, h1, rfl⟩ | ⟨kd, ds, h1, h2, h3, rfl⟩
    · rw [ruleX_word, Str.length_append, Str.length_append]
      have := len_join (sep := " ") (n := 4) (l := ls) fun x hx => Lts_len (h2 x hx)
      have e1 : ("word(" : Str).length = 5 := rfl
      have e2 : (")" : Str).length = 1 := rfl
      have e3 : (" " : Str).length = 1 := rfl
      rw [e3] at this
      show _ ≤ 3 * rB k + 21
      have : ls.length * (4 + 1) ≤ 3 * 5 := Nat.mul_le_mul_right _ h1
      omega
    · rw [ruleX_again, Str.length_append, Str.length_append]
      have := ruleX_len h1
      have e1 : ("again(" : Str).length = 6 := rfl
      have e2 : (")" : Str).length = 1 := rfl
      show _ ≤ 3 * rB k + 21
      omega
    · rw [ruleX_many k h1, Str.length_append, Str.length_append, Str.length_append]
      have := len_join (sep := ", ") (n := rB k) (l := ds.map (ruleX k)) fun x hx => by
        obtain ⟨e, he, rfl⟩ := List.mem_map.mp hx
        exact ruleX_len (h3 e he)
      have e1 : kd.length ≤ 8 := by rcases h1 with rfl | rfl <;> decide
      have e2 : (")" : Str).length = 1 := rfl
      have e3 : (", " : Str).length = 2 := rfl
      have e4 : ("(" : Str).length = 1 := rfl
      rw [e3, List.length_map] at this
      show _ ≤ 3 * rB k + 21
      have : ds.length * (rB k + 2) ≤ 3 * (rB k + 2) := Nat.mul_le_mul_right _ h2
      omega
theorem rB_le : ∀ {k : Nat}, k ≤ 4 → rB k ≤ 840 := by decide
/-- a route's step, a road -/
def stepX : PyData → Str
  | .tuple [.int a, .int b, d] => Str.ofString (toString a) ++ " " ++ Str.ofString (toString b) ++ " " ++ (match d with
    | .str x => x
    | .int c => Str.ofString (toString c)
    | _ => "")
  | _ => ""
def roadX : PyData → Str
  | .tuple [.str l, .int a, .int b, .int c] => "road " ++ l ++ " " ++ Str.ofString (toString a) ++ " " ++ Str.ofString (toString b) ++ " " ++ Str.ofString (toString c)
  | _ => ""
def wordX (ls : List Str) : Str := Txt.join " " ls
def posX (ns : List Nat) : Str := Txt.join " " (ns.map numS)
def routeX (ds : List PyData) : Str := Txt.join ", " (ds.map stepX)
def bookX (nds : List (Str × PyData)) : Str := Txt.join "\n" (nds.map fun q => q.1 ++ " = " ++ ruleX 4 q.2)
def placesX (ns : List Nat) : Str := Txt.join " " ("places" :: ns.map numS)
def netX (ns : List Nat) (ds : List PyData) : Str := Txt.join "\n" (placesX ns :: ds.map roadX)
/-- a step as drawn -/
def StepOk (d : PyData) : Prop := ∃ (a b : Nat) (e : PyData), a ≤ 30 ∧ b ≤ 30 ∧ (e = .str "a" ∨ e = .str "xy" ∨ e = .str "abcdefgh" ∨ e = .int 0 ∨ e = .int 7 ∨ e = .int 9999) ∧ d = .tuple [.int a, .int b, e]
def RoadOk (ps : List Nat) (d : PyData) : Prop := ∃ (l : Str) (a b c : Nat), l ∈ Lts ∧ a ∈ ps ∧ b ∈ ps ∧ c ≤ 1000000 ∧ d = .tuple [.str l, .int a, .int b, .int c]
theorem numS_len {n : Nat} (h : n ≤ 1000000) : (numS n).length ≤ 7 := by
  rw [len_tl, tl_num]
  exact numL_len (by decide) (by omega)
end T65
end
section
/-! W26: a rule, written: the program's and the law's. -/
namespace T65
open PySem PySem.Spec PyProof.Rows L2
/-- [f(x) for x in t], t a tuple of data -/
theorem lc_tds {K : PySem.W.Frag} {H1 : Hp} {D p : Addr} {g : TG} {te : TE} {vs : List Nat} {σ : L2.St} {Qd : Hp → Prop} {us : List V} {ds : List PyData} (f : PyData → Str) (hD : H1 D = none) (hp : H1 p = some (.tup us)) (hds : TDs H1 us ds) (hl : ds.length < sizeLine)
    (hs : ∀ (d : PyData) (v : V) (H : Hp) (Kc : VK), d ∈ ds → TD H v d → Kp [] H1 H → (∀ H', Kp [] H H' → Kc (.str (f d)) H') → g v (wipe σ vs) H fun σ2 H2 => wipe σ2 vs = wipe σ vs ∧ te σ2 H2 Kc)
    (hd : ∀ H, Kp [] H1 H → H D = some (.lst ((ds.map f).map V.str)) → Qd H)
    (mono : ∀ (v : V) (H : Hp) (Q Q' : L2.St → Hp → Prop), (∀ a b, Q a b → Q' a b) → g v (wipe σ vs) H Q → g v (wipe σ vs) H Q') :
    ∃ W : Nat → Nat → Hp → Prop, (∃ m, W 0 m (upd H1 D (.lst []))) ∧ ∀ i m H, W i m H →
      ((Itt K p).stop i H ∧ Qd H) ∨ ((Itt K p).go i H ∧ ∃ Nx : Hp → Prop, (∀ H', Nx H' → ∃ m', m' < m ∧ W (i + 1) m' H') ∧ ∀ v H', (Itt K p).yld i H v H' → g v (wipe σ vs) H' fun σ2 H2 => wipe σ2 vs = wipe σ vs ∧ tYes σ2 H2 fun b H3 =>
        if b = true then te σ2 H3 fun y H4 => ∃ acc, H4 D = some (.lst acc) ∧ acc.length < sizeLine ∧ Nx (upd H4 D (.lst (acc ++ [y]))) else Nx H3) := by
  have hlen := hds.len
  refine lc_by ds.length (fun i H => Kp [] H1 H ∧ H D = some (.lst (((ds.take i).map f).map V.str))) ⟨(Kp.refl [] H1).new hD _, upd_same⟩ (fun i H hi hP => ?_) (fun H hP => ?_) (fun i v H H' hi hP hy => ?_) (fun H hP => ?_)
  · have hi' : i < us.length := by omega
    exact ⟨_, us[i], SqT.of (hP.1.at0 hp), List.getElem?_eq_getElem hi'⟩
  · exact ⟨_, SqT.of (hP.1.at0 hp), by omega⟩
  · obtain ⟨hk, hd1⟩ := hP
    obtain ⟨rfl, hx⟩ := hy
    have hx' := hx _ (SqT.of (hk.at0 hp))
    obtain ⟨d, hd2, td⟩ := hds.at_ hx'
    have hm : d ∈ ds := List.mem_of_getElem? hd2
    have z1 : (((ds.take i).map f).map V.str).length < sizeLine := by
      rw [List.length_map, List.length_map, List.length_take]
      omega
    have z2 : ((ds.take i).map f).map V.str ++ [V.str (f d)] = ((ds.take (i + 1)).map f).map V.str := by
      rw [List.take_succ, hd2]
      simp
    exact hs d v H' _ hm (td.tu hk.tu) hk fun H2 k2 => ⟨_, k2.at0 hd1, z1, (hk.trans k2).upN hD _, by rw [upd_same, z2]⟩
  · refine hd H hP.1 ?_
    rw [hP.2, List.take_of_length_le (Nat.le_refl _)]
def spFmt (k : Nat) : Sp := fun vs H Q _ => ∃ (v : V) (d : PyData), vs = [v] ∧ TD H v d ∧ RK k d ∧ k ≤ 4 ∧ ∀ H', Kp [] H H' → Q (.str (ruleX k d)) H'
theorem TD.pair {H : Hp} {v : V} {kd : Str} {e : PyData} (h : TD H v (.tuple [.str kd, e])) : ∃ (p : Addr) (u : V), v = .ref p ∧ H p = some (.tup [.str kd, u]) ∧ TD H u e := by
  cases h with
  | tup hs ha =>
    cases ha with
    | cons a0 ar =>
      cases a0
      cases ar with
      | cons a1 ar =>
        cases ar
        exact ⟨_, _, rfl, hs, a1⟩
theorem TD.tupl {H : Hp} {v : V} {ds : List PyData} (h : TD H v (.tuple ds)) : ∃ (p : Addr) (us : List V), v = .ref p ∧ H p = some (.tup us) ∧ TDs H us ds := by
  cases h with
  | tup hs ha => exact ⟨_, _, rfl, hs, ha⟩
theorem TDs.strs2 {H : Hp} : ∀ {ls : List Str} {us : List V}, TDs H us (ls.map PyData.str) → us = ls.map V.str
  | [], _, h => by cases h; rfl
  | x :: r, _, h => by
    cases h with
    | cons a b =>
      cases a
      rw [TDs.strs2 b]
      rfl
theorem join_ok {sep : Str} {n m : Nat} {l : List Str} (h : ∀ x ∈ l, x.length ≤ n) (hm : l.length ≤ m) (hz : m * (n + sep.length) ≤ 16777216 := by decide) : (l.map (·.length)).sum + l.length * sep.length ≤ 16777216 := by
  have h1 := sum_le h
  have h2 : l.length * (n + sep.length) ≤ m * (n + sep.length) := Nat.mul_le_mul_right _ hm
  rw [Nat.mul_add] at h2
  omega
theorem le17 {n : Nat} (h : n ≤ 2 ^ 20) : n ≤ sizeLine := Nat.le_trans h (by decide)
section
variable {P : Program} {w : World} {K : PySem.W.Frag} {mg : Str → Option Value} {base : Heap} {C S f : Addr} {fd : FuncData}
theorem ok_format_rule {k : Nat} (g : G65 K mg C S) (F : Fn K "format_rule" s_format_rule f fd) (gF : mg "format_rule" = some (.ref f)) (c_format_rule : Cal P w K mg base CX0 (k + 1) "format_rule" p_format_rule (spFmt k)) : Cal P w K mg base CX0 (k + 2) "format_rule" p_format_rule (spFmt (k + 1)) := by
  refine cal_of F gF sc_format_rule (fun vs H Q E h => by obtain ⟨v, d, rfl, _⟩ := h; rfl) (fun cdv A outer s H vs Q E hr h => ⟨_,
      (pss_cons (ps_if (pt_cmpR op_eq (pe_ix (r := rIxT K) ix_tup (pv 0) pe_int (fun _ _ => rfl)) pe_str (nomark _))
        (pss_one (ps_ret (pe_joined (PJ.cons pe_str (PJ.cons (pe_fmt (pe_joinK (K := K) rfl pe_str (pe_ix (r := rIxT K) ix_tup (pv 0) pe_int (fun _ _ => rfl)))) (PJ.cons pe_str PJ.nil))))))
        pss_nil)
      (pss_cons (ps_if (pt_cmpR op_eq (pe_ix (r := rIxT K) ix_tup (pv 0) pe_int (fun _ _ => rfl)) pe_str (nomark _))
        (pss_one (ps_ret (pe_joined (PJ.cons pe_str (PJ.cons (pe_fmt (pe_cal c_format_rule hr pass0 (pa_cons (pe_ix (r := rIxT K) ix_tup (pv 0) pe_int (fun _ _ => rfl)) pa_nil))) (PJ.cons pe_str PJ.nil))))))
        pss_nil)
      (pss_one (ps_ret (pe_joined (PJ.cons (pe_fmt (pe_ix (r := rIxT K) ix_tup (pv 0) pe_int (fun _ _ => rfl))) (PJ.cons pe_str (PJ.cons (pe_fmt (pe_joinK (K := K) rfl pe_str (pe_lc rfl sc_format_rule.nd (pi_tupK (K := K) rfl (pe_ix (r := rIxT K) ix_tup (pv 0) pe_int (fun _ _ => rfl))) (own := [("part", 1)]) (blkOk_by (by kernel_rfl)) (fun _ _ _ _ _ => (pg_name (i := 1) sc_format_rule.nd rfl (by first | exact Or.inl rfl | exact Or.inr rfl))) (fun _ _ _ _ _ => pts_nil) (fun _ _ _ _ _ => (pe_cal c_format_rule hr pass0 (pa_cons (pv 1) pa_nil)))))) (PJ.cons pe_str PJ.nil))))))))), ?_⟩) (fun _ _ _ _ _ _ us hl => match us, hl with | [_], _ => rfl)
  obtain ⟨v, d, rfl, hd, hk, hk4, q⟩ := h
  have hB := ruleX_len hk
  have hB4 := rB_le hk4
  have hBk := rB_le (k := k) (by omega)
  rcases hk with ⟨ls, h1, h2, rfl⟩ | ⟨e, h1, rfl⟩ | ⟨kd, ds, h1, h2, h3, rfl⟩
  · obtain ⟨p, u, rfl, hp, hu⟩ := hd.pair
    obtain ⟨p2, us, rfl, hp2, hus⟩ := hu.tupl
    have := hus.strs2
    subst this
    rw [ruleX_word] at q hB
    have lw := len_join (sep := " ") (n := 4) (l := ls) fun x hx => Lts_len (h2 x hx)
    have lw2 : ls.length * (4 + 1) ≤ 3 * 5 := Nat.mul_le_mul_right _ h1
    replace lw : (Txt.join " " ls).length ≤ ls.length * (4 + 1) := lw
    refine ⟨_, rfl, p, _, 0, .str "word", rfl, rfl, SqT.of hp, rfl, rfl, _, rfl, ite2 (fun _ => ?_) (fun z => absurd (by rfl) z)⟩
    refine ⟨_, rfl, by decide, ?_⟩
    refine ⟨⟨_, rfl⟩, _, rfl, p, _, 1, .ref p2, rfl, rfl, SqT.of hp, rfl, " ", p2, ls, rfl, rfl, .inr (SqT.of hp2), join_ok (sep := " ") (n := 4) (m := 3) (fun x hx => Lts_len (h2 x hx)) h1, .inl ⟨_, rfl, le17 (by omega), _, rfl, ?_, _, rfl, ?_, ?_⟩⟩
    · rw [emp_app, Str.length_append]
      exact le17 (by show 5 + _ ≤ _; omega)
    · rw [emp_app, Str.length_append, Str.length_append]
      exact le17 (by show 5 + _ + 1 ≤ _; omega)
    · rw [emp_app]
      exact q H (Kp.refl [] H)
  · obtain ⟨p, u, rfl, hp, hu⟩ := hd.pair
    rw [ruleX_again] at q hB
    have le := ruleX_len h1
    refine ⟨_, rfl, p, _, 0, .str "again", rfl, rfl, SqT.of hp, rfl, rfl, _, rfl, ite2 (fun z => absurd z (by decide)) (fun _ => ?_)⟩
    refine ⟨_, rfl, p, _, 0, .str "again", rfl, rfl, SqT.of hp, rfl, rfl, _, rfl, ite2 (fun _ => ?_) (fun z => absurd (by rfl) z)⟩
    refine ⟨_, rfl, by decide, ?_⟩
    refine ⟨_, rfl, p, _, 1, u, rfl, rfl, SqT.of hp, rfl, u, e, rfl, hu, h1, by omega, fun H2 k2 => .inl ⟨_, rfl, le17 (by omega), _, rfl, ?_, _, rfl, ?_, ?_⟩⟩
    · rw [emp_app, Str.length_append]
      exact le17 (by show 6 + _ ≤ _; omega)
    · rw [emp_app, Str.length_append, Str.length_append]
      exact le17 (by show 6 + _ + 1 ≤ _; omega)
    · rw [emp_app]
      exact q H2 k2
  · obtain ⟨p, u, rfl, hp, hu⟩ := hd.pair
    obtain ⟨p2, us, rfl, hp2, hus⟩ := hu.tupl
    rw [ruleX_many k h1] at q hB
    have lm : ∀ x ∈ ds.map (ruleX k), x.length ≤ 840 := fun x hx => by
      obtain ⟨e, he, rfl⟩ := List.mem_map.mp hx
      have := ruleX_len (h3 e he)
      omega
    have lw := len_join (sep := ", ") lm
    have lw2 : (ds.map (ruleX k)).length * (840 + 2) ≤ 3 * 842 := Nat.mul_le_mul_right _ (by rw [List.length_map]; exact h2)
    replace lw : (Txt.join ", " (ds.map (ruleX k))).length ≤ (ds.map (ruleX k)).length * (840 + 2) := lw
    have kl : kd.length ≤ 8 := by rcases h1 with rfl | rfl <;> decide
    have kw : kd ≠ "word" := by rcases h1 with rfl | rfl <;> decide
    have ka : kd ≠ "again" := by rcases h1 with rfl | rfl <;> decide
    refine ⟨_, rfl, p, _, 0, .str kd, rfl, rfl, SqT.of hp, rfl, rfl, _, rfl, ite2 (fun z => absurd (by simpa using z) kw) (fun _ => ?_)⟩
    refine ⟨_, rfl, p, _, 0, .str kd, rfl, rfl, SqT.of hp, rfl, rfl, _, rfl, ite2 (fun z => absurd (by simpa using z) ka) (fun _ => ?_)⟩
    refine ⟨_, rfl, p, _, 0, .str kd, rfl, rfl, SqT.of hp, rfl, .inl ⟨_, rfl, le17 (by omega), _, rfl, ?_, _, rfl, ?_, ?_⟩⟩
    · rw [emp_app]
      exact le17 (by omega)
    · rw [emp_app, Str.length_append]
      exact le17 (by show _ + 1 ≤ _; omega)
    · rw [emp_app]
      refine ⟨⟨_, rfl⟩, _, rfl, p, _, 1, .ref p2, rfl, rfl, SqT.of hp, rfl, p2, rfl, ⟨_, SqT.of hp2⟩, fun D hD => ?_⟩
      refine lc_tds (ruleX k) hD hp2 hus (by rw [sizeLine_eq]; omega) (fun d v H2 Kc hm td kH hK => ⟨rfl, v, rfl, v, d, rfl, td, h3 d hm, by omega, fun H3 k3 => hK H3 k3⟩) (fun H2 k2 hD2 => ?_) (fun v H Q Q' h q => h _ _ q)
      refine ⟨", ", D, _, rfl, rfl, .inl (SqL.of hD2), join_ok (sep := ", ") (n := 840) (m := 3) lm (by rw [List.length_map]; exact h2), .inl ⟨_, rfl, le17 (by omega), _, rfl, ?_, _, rfl, ?_, ?_⟩⟩
      · rw [Str.length_append, Str.length_append]
        exact le17 (by show _ + 1 + _ ≤ _; omega)
      · rw [Str.length_append, Str.length_append, Str.length_append]
        exact le17 (by show _ + 1 + _ + 1 ≤ _; omega)
      · exact q H2 k2
end
end T65
end
section
/-! W27: the law's rule text; the program's words, positions, routes, written. -/
namespace T65
open PySem PySem.Spec PyProof.Rows L2
def spFWord : Sp := fun vs H Q _ => ∃ (v : V) (ls : List Str), vs = [v] ∧ TD H v (tupS ls) ∧ (∀ l ∈ ls, l ∈ Lts) ∧ ls.length ≤ 30 ∧ ∀ H', Kp [] H H' → Q (.str (wordX ls)) H'
def spFPos : Sp := fun vs H Q _ => ∃ (v : V) (ns : List Nat), vs = [v] ∧ TD H v (tupI ns) ∧ (∀ n ∈ ns, n ≤ 30) ∧ ns.length ≤ 30 ∧ ∀ H', Kp [] H H' → Q (.str (posX ns)) H'
def spFRoute : Sp := fun vs H Q _ => ∃ (v : V) (ds : List PyData), vs = [v] ∧ TD H v (.tuple ds) ∧ (∀ d ∈ ds, StepOk d) ∧ ds.length ≤ 60 ∧ ∀ H', Kp [] H H' → Q (.str (routeX ds)) H'
def nmX : PyData → Str
  | .str x => x
  | .int c => Str.ofString (toString c)
  | _ => ""
theorem stepX_eq (a b : Nat) (e : PyData) : stepX (.tuple [.int a, .int b, e]) = numS a ++ " " ++ numS b ++ " " ++ nmX e := rfl
theorem log10 {n : Nat} (h : n ≤ 1000000) : ((n : Nat) : Int).natAbs.log2 < 1920 := Nat.lt_trans (log30 (n := n) (by omega)) (by decide)
section
variable {P : Program} {w : World} {K : PySem.W.Frag} {mg : Str → Option Value} {base : Heap} {C S f : Addr} {fd : FuncData}
theorem ok_law_rule_text {k : Nat} (g : G65 K mg C S) (F : Fn K "_law_rule_text" s_law_rule_text f fd) (gF : mg "_law_rule_text" = some (.ref f)) (c_law_rule_text : Cal P w K mg base CX0 (k + 1) "_law_rule_text" p_law_rule_text (spFmt k)) : Cal P w K mg base CX0 (k + 2) "_law_rule_text" p_law_rule_text (spFmt (k + 1)) := by
  refine cal_of F gF sc_law_rule_text (fun vs H Q E h => by obtain ⟨v, d, rfl, _⟩ := h; rfl) (fun cdv A outer s H vs Q E hr h => ⟨_,
      (pss_cons (ps_if (pt_cmpR op_eq (pe_ix (r := rIxT K) ix_tup (pv 0) pe_int (fun _ _ => rfl)) pe_str (nomark _))
        (pss_one (ps_ret (pe_op op_add_str (pe_op op_add_str pe_str (pe_joinK (K := K) rfl pe_str (pe_ix (r := rIxT K) ix_tup (pv 0) pe_int (fun _ _ => rfl)))) pe_str)))
        pss_nil)
      (pss_cons (ps_if (pt_cmpR op_eq (pe_ix (r := rIxT K) ix_tup (pv 0) pe_int (fun _ _ => rfl)) pe_str (nomark _))
        (pss_one (ps_ret (pe_op op_add_str (pe_op op_add_str pe_str (pe_cal c_law_rule_text hr pass0 (pa_cons (pe_ix (r := rIxT K) ix_tup (pv 0) pe_int (fun _ _ => rfl)) pa_nil))) pe_str)))
        pss_nil)
      (pss_one (ps_ret (pe_op op_add_str (pe_op op_add_str (pe_op op_add_str (pe_ix (r := rIxT K) ix_tup (pv 0) pe_int (fun _ _ => rfl)) pe_str) (pe_joinK (K := K) rfl pe_str (pe_lc rfl sc_law_rule_text.nd (pi_tupK (K := K) rfl (pe_ix (r := rIxT K) ix_tup (pv 0) pe_int (fun _ _ => rfl))) (own := [("_law_part", 1)]) (blkOk_by (by kernel_rfl)) (fun _ _ _ _ _ => (pg_name (i := 1) sc_law_rule_text.nd rfl (by first | exact Or.inl rfl | exact Or.inr rfl))) (fun _ _ _ _ _ => pts_nil) (fun _ _ _ _ _ => (pe_cal c_law_rule_text hr pass0 (pa_cons (pv 1) pa_nil)))))) pe_str))))), ?_⟩) (fun _ _ _ _ _ _ us hl => match us, hl with | [_], _ => rfl)
  obtain ⟨v, d, rfl, hd, hk, hk4, q⟩ := h
  have hB := ruleX_len hk
  have hB4 := rB_le hk4
  have hBk := rB_le (k := k) (by omega)
  rcases hk with ⟨ls, h1, h2, rfl⟩ | ⟨e, h1, rfl⟩ | ⟨kd, ds, h1, h2, h3, rfl⟩
  · obtain ⟨p, u, rfl, hp, hu⟩ := hd.pair
    obtain ⟨p2, us, rfl, hp2, hus⟩ := hu.tupl
    have := hus.strs2
    subst this
    rw [ruleX_word] at q hB
    have lw := len_join (sep := " ") (n := 4) (l := ls) fun x hx => Lts_len (h2 x hx)
    have lw2 : ls.length * (4 + 1) ≤ 3 * 5 := Nat.mul_le_mul_right _ h1
    replace lw : (Txt.join " " ls).length ≤ ls.length * (4 + 1) := lw
    refine ⟨_, rfl, p, _, 0, .str "word", rfl, rfl, SqT.of hp, rfl, rfl, _, rfl, ite2 (fun _ => ?_) (fun z => absurd (by rfl) z)⟩
    refine ⟨⟨_, rfl⟩, _, rfl, p, _, 1, .ref p2, rfl, rfl, SqT.of hp, rfl, " ", p2, ls, rfl, rfl, .inr (SqT.of hp2), join_ok (sep := " ") (n := 4) (m := 3) (fun x hx => Lts_len (h2 x hx)) h1, _, _, rfl, rfl, ?_, _, _, rfl, rfl, ?_, q H (Kp.refl [] H)⟩
    · exact le17 (by show 5 + _ ≤ _; omega)
    · rw [Str.length_append]
      exact le17 (by show 5 + _ + 1 ≤ _; omega)
  · obtain ⟨p, u, rfl, hp, hu⟩ := hd.pair
    rw [ruleX_again] at q hB
    have le := ruleX_len h1
    refine ⟨_, rfl, p, _, 0, .str "again", rfl, rfl, SqT.of hp, rfl, rfl, _, rfl, ite2 (fun z => absurd z (by decide)) (fun _ => ?_)⟩
    refine ⟨_, rfl, p, _, 0, .str "again", rfl, rfl, SqT.of hp, rfl, rfl, _, rfl, ite2 (fun _ => ?_) (fun z => absurd (by rfl) z)⟩
    refine ⟨_, rfl, p, _, 1, u, rfl, rfl, SqT.of hp, rfl, u, e, rfl, hu, h1, by omega, fun H2 k2 => ⟨_, _, rfl, rfl, ?_, _, _, rfl, rfl, ?_, q H2 k2⟩⟩
    · exact le17 (by show 6 + _ ≤ _; omega)
    · rw [Str.length_append]
      exact le17 (by show 6 + _ + 1 ≤ _; omega)
  · obtain ⟨p, u, rfl, hp, hu⟩ := hd.pair
    obtain ⟨p2, us, rfl, hp2, hus⟩ := hu.tupl
    rw [ruleX_many k h1] at q hB
    have lm : ∀ x ∈ ds.map (ruleX k), x.length ≤ 840 := fun x hx => by
      obtain ⟨e, he, rfl⟩ := List.mem_map.mp hx
      have := ruleX_len (h3 e he)
      omega
    have lw := len_join (sep := ", ") lm
    have lw2 : (ds.map (ruleX k)).length * (840 + 2) ≤ 3 * 842 := Nat.mul_le_mul_right _ (by rw [List.length_map]; exact h2)
    replace lw : (Txt.join ", " (ds.map (ruleX k))).length ≤ (ds.map (ruleX k)).length * (840 + 2) := lw
    have kl : kd.length ≤ 8 := by rcases h1 with rfl | rfl <;> decide
    have kw : kd ≠ "word" := by rcases h1 with rfl | rfl <;> decide
    have ka : kd ≠ "again" := by rcases h1 with rfl | rfl <;> decide
    refine ⟨_, rfl, p, _, 0, .str kd, rfl, rfl, SqT.of hp, rfl, rfl, _, rfl, ite2 (fun z => absurd (by simpa using z) kw) (fun _ => ?_)⟩
    refine ⟨_, rfl, p, _, 0, .str kd, rfl, rfl, SqT.of hp, rfl, rfl, _, rfl, ite2 (fun z => absurd (by simpa using z) ka) (fun _ => ?_)⟩
    refine ⟨_, rfl, p, _, 0, .str kd, rfl, rfl, SqT.of hp, rfl, _, _, rfl, rfl, le17 (by show _ + 1 ≤ _; omega), ⟨_, rfl⟩, _, rfl, p, _, 1, .ref p2, rfl, rfl, SqT.of hp, rfl, p2, rfl, ⟨_, SqT.of hp2⟩, fun D hD => ?_⟩
    refine lc_tds (ruleX k) hD hp2 hus (by rw [sizeLine_eq]; omega) (fun d v H2 Kc hm td kH hK => ⟨rfl, v, rfl, v, d, rfl, td, h3 d hm, by omega, fun H3 k3 => hK H3 k3⟩) (fun H2 k2 hD2 => ?_) (fun v H Q Q' h q => h _ _ q)
    refine ⟨", ", D, _, rfl, rfl, .inl (SqL.of hD2), join_ok (sep := ", ") (n := 840) (m := 3) lm (by rw [List.length_map]; exact h2), _, _, rfl, rfl, ?_, _, _, rfl, rfl, ?_, q H2 k2⟩
    · rw [Str.length_append]
      exact le17 (by show _ + 1 + _ ≤ _; omega)
    · rw [Str.length_append, Str.length_append]
      exact le17 (by show _ + 1 + _ + 1 ≤ _; omega)
theorem frules_all (g : G65 K mg C S) (F : Fn K "format_rule" s_format_rule f fd) (gF : mg "format_rule" = some (.ref f)) : ∀ j : Nat, Cal P w K mg base CX0 (j + 1) "format_rule" p_format_rule (spFmt j)
  | 0 => ⟨f, fd, ⟨fun vs H Q E h => (by obtain ⟨v, d, rfl, _, hk, _⟩ := h; exact hk.elim), fun _ _ _ _ _ _ _ _ _ _ _ _ _ h => (by obtain ⟨v, d, rfl, _, hk, _⟩ := h; exact hk.elim)⟩, gF, F.kp, F.bindsN (fun _ _ _ _ _ _ us hl => match us, hl with | [_], _ => rfl)⟩
  | j + 1 => ok_format_rule g F gF (frules_all g F gF j)
theorem lrtexts_all (g : G65 K mg C S) (F : Fn K "_law_rule_text" s_law_rule_text f fd) (gF : mg "_law_rule_text" = some (.ref f)) : ∀ j : Nat, Cal P w K mg base CX0 (j + 1) "_law_rule_text" p_law_rule_text (spFmt j)
  | 0 => ⟨f, fd, ⟨fun vs H Q E h => (by obtain ⟨v, d, rfl, _, hk, _⟩ := h; exact hk.elim), fun _ _ _ _ _ _ _ _ _ _ _ _ _ h => (by obtain ⟨v, d, rfl, _, hk, _⟩ := h; exact hk.elim)⟩, gF, F.kp, F.bindsN (fun _ _ _ _ _ _ us hl => match us, hl with | [_], _ => rfl)⟩
  | j + 1 => ok_law_rule_text g F gF (lrtexts_all g F gF j)
theorem ok_format_word (g : G65 K mg C S) (F : Fn K "format_word" s_format_word f fd) (gF : mg "format_word" = some (.ref f)) : Cal P w K mg base CX0 1 "format_word" p_format_word spFWord := by
  refine cal_of F gF sc_format_word (fun vs H Q E h => by obtain ⟨v, ls, rfl, _⟩ := h; rfl) (fun cdv A outer s H vs Q E hr h => ⟨_,
      (pss_one (ps_ret (pe_joinK (K := K) rfl pe_str (pv 0)))), ?_⟩) (fun _ _ _ _ _ _ us hl => match us, hl with | [_], _ => rfl)
  obtain ⟨v, ls, rfl, hd, h1, h2, q⟩ := h
  obtain ⟨p, us, rfl, hp, hus⟩ := hd.tupl
  have := hus.strs2
  subst this
  exact ⟨⟨_, rfl⟩, _, rfl, " ", p, ls, rfl, rfl, .inr (SqT.of hp), join_ok (sep := " ") (n := 4) (m := 30) (fun x hx => Lts_len (h1 x hx)) h2, q H (Kp.refl [] H)⟩
theorem ok_format_positions (g : G65 K mg C S) (F : Fn K "format_positions" s_format_positions f fd) (gF : mg "format_positions" = some (.ref f)) : Cal P w K mg base CX0 1 "format_positions" p_format_positions spFPos := by
  refine cal_of F gF sc_format_positions (fun vs H Q E h => by obtain ⟨v, ls, rfl, _⟩ := h; rfl) (fun cdv A outer s H vs Q E hr h => ⟨_,
      (pss_one (ps_ret (pe_joinK (K := K) rfl pe_str (pe_lc rfl sc_format_positions.nd (pi_tupK (K := K) rfl (pv 0)) (own := [("place", 1)]) (blkOk_by (by kernel_rfl)) (fun _ _ _ _ _ => (pg_name (i := 1) sc_format_positions.nd rfl (by first | exact Or.inl rfl | exact Or.inr rfl))) (fun _ _ _ _ _ => pts_nil) (fun _ _ _ _ _ => (pe_callTy call_str_int rfl g.str_ rfl (pa_cons (pv 1) pa_nil))))))), ?_⟩) (fun _ _ _ _ _ _ us hl => match us, hl with | [_], _ => rfl)
  obtain ⟨v, ns, rfl, hd, h1, h2, q⟩ := h
  obtain ⟨p, us, rfl, hp, hus⟩ := hd.tupl
  refine ⟨⟨_, rfl⟩, _, rfl, p, rfl, ⟨_, SqT.of hp⟩, fun D hD => ?_⟩
  have ef : (ns.map fun n => PyData.int (n : Nat)).map nmX = ns.map numS := by
    rw [List.map_map]
    rfl
  refine lc_tds nmX hD hp hus (by rw [List.length_map, sizeLine_eq]; omega) (fun d v H2 Kc hm td kH hK => ?_) (fun H2 k2 hD2 => ?_) (fun v H Q Q' h q => h _ _ q)
  · obtain ⟨n, hn, rfl⟩ := List.mem_map.mp hm
    cases td
    exact ⟨rfl, _, rfl, _, rfl, log10 (by have := h1 n hn; omega), hK H2 (Kp.refl [] H2)⟩
  · rw [ef] at hD2
    exact ⟨" ", D, _, rfl, rfl, .inl (SqL.of hD2), join_ok (sep := " ") (n := 7) (m := 30) (fun x hx => by
      obtain ⟨n, hn, rfl⟩ := List.mem_map.mp hx
      exact numS_len (by have := h1 n hn; omega)) (by rw [List.length_map]; exact h2), q H2 k2⟩
theorem step_len {d : PyData} (h : StepOk d) : (stepX d).length ≤ 30 := by
  obtain ⟨a, b, e, ha, hb, he, rfl⟩ := h
  have l1 := numS_len (n := a) (by omega)
  have l2 := numS_len (n := b) (by omega)
  rw [stepX_eq, Str.length_append, Str.length_append, Str.length_append, Str.length_append]
  have l3 : (nmX e).length ≤ 8 := by rcases he with rfl | rfl | rfl | rfl | rfl | rfl <;> decide
  show _ + 1 + _ + 1 + _ ≤ _
  omega
theorem ok_format_route (g : G65 K mg C S) (F : Fn K "format_route" s_format_route f fd) (gF : mg "format_route" = some (.ref f)) : Cal P w K mg base CX0 1 "format_route" p_format_route spFRoute := by
  refine cal_of F gF sc_format_route (fun vs H Q E h => by obtain ⟨v, ls, rfl, _⟩ := h; rfl) (fun cdv A outer s H vs Q E hr h => ⟨_,
      (pss_one (ps_ret (pe_joinK (K := K) rfl pe_str (pe_lc rfl sc_format_route.nd (pi_tupK (K := K) rfl (pv 0)) (own := [("start", 1), ("end", 2), ("name", 3)]) (blkOk_by (by kernel_rfl)) (fun _ _ _ _ _ => (pg_tupK (K := K) (n := 3) rfl rfl (pgs_cons (pg_name (i := 1) sc_format_route.nd rfl (by first | exact Or.inl rfl | exact Or.inr rfl)) (pgs_cons (pg_name (i := 2) sc_format_route.nd rfl (by first | exact Or.inl rfl | exact Or.inr rfl)) (pgs_cons (pg_name (i := 3) sc_format_route.nd rfl (by first | exact Or.inl rfl | exact Or.inr rfl)) pgs_nil))))) (fun _ _ _ _ _ => pts_nil) (fun _ _ _ _ _ => (pe_joined (PJ.cons (pe_fmt (pv 1)) (PJ.cons pe_str (PJ.cons (pe_fmt (pv 2)) (PJ.cons pe_str (PJ.cons (pe_fmt (pv 3)) PJ.nil))))))))))), ?_⟩) (fun _ _ _ _ _ _ us hl => match us, hl with | [_], _ => rfl)
  obtain ⟨v, ds, rfl, hd, h1, h2, q⟩ := h
  obtain ⟨p, us, rfl, hp, hus⟩ := hd.tupl
  refine ⟨⟨_, rfl⟩, _, rfl, p, rfl, ⟨_, SqT.of hp⟩, fun D hD => ?_⟩
  refine lc_tds (te := fun σ H Q => tJs [tFmt (tVar 1), tC (.str " "), tFmt (tVar 2), tC (.str " "), tFmt (tVar 3)] Str.empty σ H fun out H1 => Q (.str out) H1) stepX hD hp hus (by rw [sizeLine_eq]; omega) (fun d v H2 Kc hm td kH hK => ?_) (fun H2 k2 hD2 => ?_) (fun v H Q Q' h q => ?_)
  · have hlen := step_len (h1 d hm)
    obtain ⟨a, b, e, ha, hb, he, rfl⟩ := h1 d hm
    obtain ⟨p2, us2, rfl, hp2, hus2⟩ := td.tupl
    cases hus2 with
    | cons a0 ar =>
      cases a0
      cases ar with
      | cons a1 ar =>
        cases a1
        cases ar with
        | @cons v3 _ _ _ a2 ar =>
          cases ar
          rw [stepX_eq] at hK hlen
          have l0 := hlen
          rw [Str.length_append, Str.length_append, Str.length_append, Str.length_append] at l0
          refine ⟨p2, _, rfl, SqT.of hp2, rfl, _, _, rfl, _, _, rfl, _, _, rfl, rfl, rfl, ?_⟩
          refine ⟨_, rfl, .inr ⟨_, rfl, log10 (by omega), _, rfl, ?_, _, rfl, ?_, _, rfl, .inr ⟨_, rfl, log10 (by omega), _, rfl, ?_, _, rfl, ?_, ?_⟩⟩⟩
          · rw [emp_app]
            exact le17 (by show (numS a).length ≤ _; omega)
          · rw [emp_app, Str.length_append]
            exact le17 (by show (numS a).length + _ ≤ _; omega)
          · rw [emp_app, Str.length_append, Str.length_append]
            exact le17 (by show (numS a).length + _ + (numS b).length ≤ _; omega)
          · rw [emp_app, Str.length_append, Str.length_append, Str.length_append]
            exact le17 (by show (numS a).length + _ + (numS b).length + _ ≤ _; omega)
          · rw [emp_app]
            have fin : (Str.ofString (toString (a : Int)) ++ " " ++ Str.ofString (toString (b : Int)) ++ " " ++ nmX e).length ≤ sizeLine := le17 (by show (numS a ++ " " ++ numS b ++ " " ++ nmX e).length ≤ _; omega)
            refine ⟨v3, rfl, ?_⟩
            rcases he with rfl | rfl | rfl | rfl | rfl | rfl <;> cases a2
            · exact .inl ⟨_, rfl, by decide, _, rfl, fin, hK H2 (Kp.refl [] H2)⟩
            · exact .inl ⟨_, rfl, by decide, _, rfl, fin, hK H2 (Kp.refl [] H2)⟩
            · exact .inl ⟨_, rfl, by decide, _, rfl, fin, hK H2 (Kp.refl [] H2)⟩
            · exact .inr ⟨_, rfl, log10 (n := 0) (by omega), _, rfl, fin, hK H2 (Kp.refl [] H2)⟩
            · exact .inr ⟨_, rfl, log10 (n := 7) (by omega), _, rfl, fin, hK H2 (Kp.refl [] H2)⟩
            · exact .inr ⟨_, rfl, log10 (n := 9999) (by omega), _, rfl, fin, hK H2 (Kp.refl [] H2)⟩
  · exact ⟨", ", D, _, rfl, rfl, .inl (SqL.of hD2), join_ok (sep := ", ") (n := 30) (m := 60) (fun x hx => by
      obtain ⟨n, hn, rfl⟩ := List.mem_map.mp hx
      exact step_len (h1 n hn)) (by rw [List.length_map]; exact h2), q H2 k2⟩
  · obtain ⟨a, xs, r1, r2, r3, v1, _, rfl, v2, _, rfl, v3, _, rfl, rfl, r4⟩ := q
    exact ⟨a, _, r1, r2, r3, _, _, rfl, _, _, rfl, _, _, rfl, rfl, h _ _ r4⟩
end
end T65
end
section
/-! W28: books and nets, written. -/
namespace T65
open PySem PySem.Spec PyProof.Rows L2
def spFBook : Sp := fun vs H Q _ => ∃ (a : Addr) (kvs : List (Key × V)) (nds : List (Str × PyData)), vs = [.ref a] ∧ H a = some (.dK kvs) ∧ KD H kvs nds ∧ (∀ q ∈ nds, q.1.length ≤ 8 ∧ RK 4 q.2) ∧ nds.length ≤ 8 ∧ ∀ H', Kp [] H H' → Q (.str (bookX nds)) H'
def spFNet : Sp := fun vs H Q _ => ∃ (v : V) (ps : List Nat) (ds : List PyData), vs = [v] ∧ TD H v (.tuple [tupI ps, .tuple ds]) ∧ (∀ n ∈ ps, n ≤ 1000000) ∧ ps.length ≤ 64 ∧ (∀ d ∈ ds, RoadOk ps d) ∧ ds.length ≤ 200 ∧ ∀ H', Kp [] H H' → Q (.str (netX ps ds)) H'
theorem Kp.unlock {H H' : Hp} {d : Addr} {o : Obj} {kvs : List (Key × V)} (k : Kp [] (upd H d (.frz o (.dK kvs))) H') (e : H d = some (.dK kvs)) : Kp [] H (upd H' d (.dK kvs)) := by
  have same : ∀ b u, H b = some u → upd H' d (.dK kvs) b = some u := fun b u z => by
    by_cases hb : b = d
    · subst hb
      rw [upd_same, ← z, e]
    · rw [upd_ne hb]
      exact k.at0 (by rw [upd_ne hb]; exact z)
  refine ⟨fun b u _ z => same b u z, ⟨fun b xs z => same b _ z, fun b xs z => same b _ z⟩, fun b z => ?_⟩
  cases hz : H b with
  | none => exact absurd hz z
  | some u => rw [same b u hz]; simp
theorem KD.at_ {H : Hp} : ∀ {kvs : List (Key × V)} {nds : List (Str × PyData)} {i : Nat} {q : Key × V}, KD H kvs nds → kvs[i]? = some q → ∃ n d, q.1 = .inr n ∧ nds[i]? = some (n, d) ∧ TD H q.2 d
  | _, _, _, _, .nil, e => by simp at e
  | _, _, 0, _, .cons a r, e => by
    simp at e
    subst e
    exact ⟨_, _, rfl, rfl, a⟩
  | _, _, i + 1, q, .cons a r, e => by
    obtain ⟨n, d, h1, h2, h3⟩ := r.at_ (i := i) (q := q) (by simpa using e)
    exact ⟨n, d, h1, by simpa using h2, h3⟩
def bookL (q : Str × PyData) : Str := q.1 ++ " = " ++ ruleX 4 q.2
theorem bookL_len {q : Str × PyData} (h : q.1.length ≤ 8 ∧ RK 4 q.2) : (bookL q).length ≤ 851 := by
  have := ruleX_len h.2
  have := rB_le (k := 4) (by omega)
  unfold bookL
  rw [Str.length_append, Str.length_append]
  show _ + 3 + _ ≤ _
  omega
theorem road_len {ps : List Nat} {d : PyData} (h : RoadOk ps d) (hp : ∀ n ∈ ps, n ≤ 1000000) : (roadX d).length ≤ 40 := by
  obtain ⟨l, a, b, c, h1, h2, h3, h4, rfl⟩ := h
  have l1 := Lts_len h1
  have l2 := numS_len (hp a h2)
  have l3 := numS_len (hp b h3)
  have l4 := numS_len h4
  show ("road " ++ l ++ " " ++ numS a ++ " " ++ numS b ++ " " ++ numS c).length ≤ _
  rw [Str.length_append, Str.length_append, Str.length_append, Str.length_append, Str.length_append, Str.length_append, Str.length_append]
  show 5 + _ + 1 + _ + 1 + _ + 1 + _ ≤ _
  omega
section
variable {P : Program} {w : World} {K : PySem.W.Frag} {mg : Str → Option Value} {base : Heap} {C S f : Addr} {fd : FuncData}
theorem ok_format_book (g : G65 K mg C S) (F : Fn K "format_book" s_format_book f fd) (gF : mg "format_book" = some (.ref f)) (c_format_rule : Cal P w K mg base CX0 5 "format_rule" p_format_rule (spFmt 4)) : Cal P w K mg base CX0 6 "format_book" p_format_book spFBook := by
  refine cal_of F gF sc_format_book (fun vs H Q E h => by obtain ⟨a, kvs, nds, rfl, _⟩ := h; rfl) (fun cdv A outer s H vs Q E hr h => ⟨_,
      (pss_one (ps_ret (pe_joinK (K := K) rfl pe_str (pe_lock (pe_lc rfl sc_format_book.nd (pi_items (pv 0)) (own := [("name", 1), ("rule", 2)]) (blkOk_by (by kernel_rfl)) (fun _ _ _ _ _ => (pg_tupK (K := K) (n := 2) rfl rfl (pgs_cons (pg_name (i := 1) sc_format_book.nd rfl (by first | exact Or.inl rfl | exact Or.inr rfl)) (pgs_cons (pg_name (i := 2) sc_format_book.nd rfl (by first | exact Or.inl rfl | exact Or.inr rfl)) pgs_nil)))) (fun _ _ _ _ _ => pts_nil) (fun _ _ _ _ _ => (pe_joined (PJ.cons (pe_fmt (pv 1)) (PJ.cons pe_str (PJ.cons (pe_fmt (pe_cal c_format_rule hr pass0 (pa_cons (pv 2) pa_nil))) PJ.nil)))))))))), ?_⟩) (fun _ _ _ _ _ _ us hl => match us, hl with | [_], _ => rfl)
  obtain ⟨a, kvs, nds, rfl, ha, kd, h1, h2, q⟩ := h
  have hlen := kd.len
  refine ⟨⟨_, rfl⟩, a, .dK kvs, ha, by simp [Mut], fun od => ?_⟩
  refine ⟨_, rfl, a, od, kvs, rfl, upd_same, fun D hD => ?_⟩
  have tu : Tu H (upd H a (.frz od (.dK kvs))) := fun b xs e => by rw [upd_ne (ne_of e ha (by simp))]; exact e
  obtain ⟨H1, hH1⟩ : ∃ Z : Hp, Z = upd H a (.frz od (.dK kvs)) := ⟨_, rfl⟩
  rw [← hH1] at tu hD ⊢
  have ha1 : H1 a = some (.frz od (.dK kvs)) := by rw [hH1, upd_same]
  have kd1 := kd.tu tu
  refine lc_by (J := Iti a od kvs) (te := fun σ H Q => tJs [tFmt (tVar 1), tC (.str " = "), tFmt (tCall (spFmt 4) [] E0 (tCons (tVar 2) tNil))] Str.empty σ H fun out H1 => Q (.str out) H1) nds.length (fun i H2 => Kp [] H1 H2 ∧ H2 D = some (.lst (((nds.take i).map bookL).map V.str))) ⟨(Kp.refl [] H1).new hD _, upd_same⟩ (fun i H2 hi hP => ?_) (fun H2 hP => ?_) (fun i v H2 H3 hi hP hy => ?_) (fun H2 hP => ?_)
  · exact ⟨hP.1.at0 ha1, by omega⟩
  · exact ⟨hP.1.at0 ha1, by omega⟩
  · obtain ⟨hk, hd1⟩ := hP
    obtain ⟨T, k, v, e1, rfl, hT, rfl⟩ := hy
    obtain ⟨n, d, rfl, e2, td⟩ := kd1.at_ e1
    have hm : (n, d) ∈ nds := List.mem_of_getElem? e2
    obtain ⟨hn, hr4⟩ := h1 _ hm
    have kT := hk.new hT (.tup [kV (.inr n), v])
    have hB := bookL_len (h1 _ hm)
    replace hn : n.length ≤ 8 := hn
    replace hr4 : RK 4 d := hr4
    have lr := ruleX_len hr4
    have lr4 := rB_le (k := 4) (by omega)
    have z1 : (((nds.take i).map bookL).map V.str).length < sizeLine := by
      rw [List.length_map, List.length_map, List.length_take, sizeLine_eq]
      omega
    have z2 : ((nds.take i).map bookL).map V.str ++ [V.str (bookL (n, d))] = ((nds.take (i + 1)).map bookL).map V.str := by
      rw [List.take_succ, e2]
      simp
    refine ⟨T, [.str n, v], rfl, SqT.of upd_same, rfl, _, _, rfl, _, _, rfl, rfl, rfl, ?_⟩
    refine ⟨_, rfl, .inl ⟨_, rfl, le17 (by omega), _, rfl, by rw [emp_app]; exact le17 (by omega), _, rfl, by rw [emp_app, Str.length_append]; exact le17 (by show _ + 3 ≤ _; omega), ?_⟩⟩
    refine ⟨_, rfl, v, d, rfl, td.tu kT.tu, hr4, by omega, fun H4 k4 => .inl ⟨_, rfl, le17 (by omega), _, rfl, ?_, ?_⟩⟩
    · rw [emp_app, Str.length_append, Str.length_append]
      exact le17 (by show _ + 3 + _ ≤ _; omega)
    · have k04 := kT.trans k4
      have hD4 : H4 D = some (.lst (((nds.take i).map bookL).map V.str)) := k4.at0 (by rw [upd_ne (ne_of_none hd1 hT)]; exact hd1)
      refine ⟨_, hD4, z1, k04.upN hD _, ?_⟩
      rw [upd_same, emp_app]
      exact congrArg (fun z => some (HO.lst z)) z2
  · obtain ⟨hk, hd1⟩ := hP
    rw [List.take_of_length_le (Nat.le_refl _)] at hd1
    refine ⟨hk.at0 ha1, "\n", D, nds.map bookL, rfl, rfl, .inl (SqL.of ?_), join_ok (sep := "\n") (n := 851) (m := 8) (fun x hx => by
      obtain ⟨n, hn, rfl⟩ := List.mem_map.mp hx
      exact bookL_len (h1 n hn)) (by rw [List.length_map]; exact h2), q _ ?_⟩
    · rw [upd_ne (Ne.symm (ne_of_none ha1 hD))]
      exact hd1
    · rw [hH1] at hk
      exact hk.unlock ha
theorem ok_format_net (g : G65 K mg C S) (F : Fn K "format_net" s_format_net f fd) (gF : mg "format_net" = some (.ref f)) : Cal P w K mg base CX0 1 "format_net" p_format_net spFNet := by
  refine cal_of F gF sc_format_net (fun vs H Q E h => by obtain ⟨v, ps, ds, rfl, _⟩ := h; rfl) (fun cdv A outer s H vs Q E hr h => ⟨_,
      (pss_cons (ps_set (i := 1) sc_format_net.nd rfl (by first | exact Or.inl rfl | exact Or.inr rfl) (pe_lst (pa_cons (pe_joinK (K := K) rfl pe_str (pe_op op_cat (pe_lst (pa_cons pe_str pa_nil)) (pe_lc rfl sc_format_net.nd (pi_tupK (K := K) rfl (pe_ix (r := rIxT K) ix_tup (pv 0) pe_int (fun _ _ => rfl))) (own := [("place", 2)]) (blkOk_by (by kernel_rfl)) (fun _ _ _ _ _ => (pg_name (i := 2) sc_format_net.nd rfl (by first | exact Or.inl rfl | exact Or.inr rfl))) (fun _ _ _ _ _ => pts_nil) (fun _ _ _ _ _ => (pe_callTy call_str_int rfl g.str_ rfl (pa_cons (pv 2) pa_nil)))))) pa_nil)))
      (pss_one (ps_ret (pe_joinK (K := K) rfl pe_str (pe_op op_cat (pv 1) (pe_lc rfl sc_format_net.nd (pi_tupK (K := K) rfl (pe_ix (r := rIxT K) ix_tup (pv 0) pe_int (fun _ _ => rfl))) (own := [("letter", 3), ("start", 4), ("end", 5), ("cost", 6)]) (blkOk_by (by kernel_rfl)) (fun _ _ _ _ _ => (pg_tupK (K := K) (n := 4) rfl rfl (pgs_cons (pg_name (i := 3) sc_format_net.nd rfl (by first | exact Or.inl rfl | exact Or.inr rfl)) (pgs_cons (pg_name (i := 4) sc_format_net.nd rfl (by first | exact Or.inl rfl | exact Or.inr rfl)) (pgs_cons (pg_name (i := 5) sc_format_net.nd rfl (by first | exact Or.inl rfl | exact Or.inr rfl)) (pgs_cons (pg_name (i := 6) sc_format_net.nd rfl (by first | exact Or.inl rfl | exact Or.inr rfl)) pgs_nil)))))) (fun _ _ _ _ _ => pts_nil) (fun _ _ _ _ _ => (pe_joined (PJ.cons pe_str (PJ.cons (pe_fmt (pv 3)) (PJ.cons pe_str (PJ.cons (pe_fmt (pv 4)) (PJ.cons pe_str (PJ.cons (pe_fmt (pv 5)) (PJ.cons pe_str (PJ.cons (pe_fmt (pv 6)) PJ.nil)))))))))))))))), ?_⟩) (fun _ _ _ _ _ _ us hl => match us, hl with | [_], _ => rfl)
  obtain ⟨v, ps, ds, rfl, hd, h1, h2, h3, h4, q⟩ := h
  obtain ⟨p, us, rfl, hp, hus⟩ := hd.tupl
  obtain ⟨pv, u1, hus1⟩ : ∃ (pv : V) (u1 : V), us = [pv, u1] ∧ TD H pv (tupI ps) ∧ TD H u1 (.tuple ds) := by
    cases hus with
    | cons a0 ar =>
      cases ar with
      | cons a1 ar =>
        cases ar
        exact ⟨_, _, rfl, a0, a1⟩
  obtain ⟨rfl, tp, td⟩ := hus1
  obtain ⟨pa, us1, rfl, hpa, hpus⟩ := tp.tupl
  obtain ⟨da, us2, rfl, hda, hdus⟩ := td.tupl
  have ef : (ps.map fun n => PyData.int (n : Nat)).map nmX = ps.map numS := by
    rw [List.map_map]
    rfl
  have lp : ∀ x ∈ ("places" :: ps.map numS : List Str), x.length ≤ 7 := fun x hx => by
    rcases List.mem_cons.mp hx with rfl | hx
    · decide
    · obtain ⟨n, hn, rfl⟩ := List.mem_map.mp hx
      exact numS_len (h1 n hn)
  have lpl := len_join (sep := " ") lp
  replace lpl : (placesX ps).length ≤ (ps.map numS).length.succ * 8 := lpl
  rw [List.length_map] at lpl
  refine ⟨⟨_, rfl⟩, (by show 1 ≤ sizeLine; decide), fun pl hpl => ?_⟩
  have k1 := (Kp.refl [] H).new hpl (.lst [.str "places"])
  refine ⟨_, rfl, p, _, 0, .ref pa, rfl, rfl, SqT.of (k1.at0 hp), rfl, pa, rfl, ⟨_, SqT.of (k1.at0 hpa)⟩, fun D hD => ?_⟩
  refine lc_tds nmX hD (k1.at0 hpa) (hpus.tu k1.tu) (by rw [List.length_map, sizeLine_eq]; omega) (fun d v H2 Kc hm td kH hK => ?_) (fun H2 k2 hD2 => ?_) (fun v H Q Q' h q => h _ _ q)
  · obtain ⟨n, hn, rfl⟩ := List.mem_map.mp hm
    cases td
    exact ⟨rfl, _, rfl, _, rfl, log10 (h1 n hn), hK H2 (Kp.refl [] H2)⟩
  · rw [ef] at hD2
    have hpl2 : H2 pl = some (.lst [.str "places"]) := k2.at0 upd_same
    refine ⟨pl, D, [.str "places"], _, rfl, rfl, hpl2, hD2, (by rw [List.length_map, List.length_map, sizeLine_eq]; show 1 + _ ≤ _; omega), fun p3 hp3 => ?_⟩
    have k3 := (k1.trans k2).new hp3 (.lst ([V.str "places"] ++ (ps.map numS).map V.str))
    refine ⟨" ", p3, "places" :: ps.map numS, rfl, rfl, .inl (SqL.of upd_same), join_ok (sep := " ") (n := 7) (m := 65) lp (by rw [List.length_cons, List.length_map]; omega), ?_⟩
    refine ⟨(by show 1 ≤ sizeLine; decide), fun p4 hp4 => ?_⟩
    have k4 := k3.new hp4 (.lst [V.str (placesX ps)])
    have hd4 := k4.at0 hda
    refine ⟨⟨_, rfl⟩, _, rfl, _, rfl, p, _, 1, .ref da, rfl, rfl, SqT.of (k4.at0 hp), rfl, da, rfl, ⟨_, SqT.of hd4⟩, fun G hG => ?_⟩
    refine lc_tds (te := fun σ H Q => tJs [tC (.str "road "), tFmt (tVar 3), tC (.str " "), tFmt (tVar 4), tC (.str " "), tFmt (tVar 5), tC (.str " "), tFmt (tVar 6)] Str.empty σ H fun out H1 => Q (.str out) H1) roadX hG hd4 (hdus.tu k4.tu) (by rw [sizeLine_eq]; omega) (fun d v H5 Kc hm td kH hK => ?_) (fun H5 k5 hG5 => ?_) (fun v H Q Q' h q => ?_)
    · have hlen := road_len (h3 d hm) h1
      obtain ⟨l, a, b, c, g1, g2, g3, g4, rfl⟩ := h3 d hm
      obtain ⟨p2, us2, rfl, hp2, hus2⟩ := td.tupl
      cases hus2 with
      | cons a0 ar =>
        cases a0
        cases ar with
        | cons a1 ar =>
          cases a1
          cases ar with
          | cons a2 ar =>
            cases a2
            cases ar with
            | cons a3 ar =>
              cases a3
              cases ar
              replace hlen : ("road " ++ l ++ " " ++ numS a ++ " " ++ numS b ++ " " ++ numS c).length ≤ 40 := hlen
              have l0 := hlen
              rw [Str.length_append, Str.length_append, Str.length_append, Str.length_append, Str.length_append, Str.length_append, Str.length_append] at l0
              refine ⟨p2, _, rfl, SqT.of hp2, rfl, _, _, rfl, _, _, rfl, _, _, rfl, _, _, rfl, rfl, rfl, ?_⟩
              refine ⟨_, rfl, by decide, _, rfl, .inl ⟨_, rfl, le17 (by omega), _, rfl, ?_, _, rfl, ?_, _, rfl, .inr ⟨_, rfl, log10 (h1 a g2), _, rfl, ?_, _, rfl, ?_, _, rfl, .inr ⟨_, rfl, log10 (h1 b g3), _, rfl, ?_, _, rfl, ?_, _, rfl, .inr ⟨_, rfl, log10 g4, _, rfl, ?_, ?_⟩⟩⟩⟩⟩
              · rw [emp_app, Str.length_append]
                exact le17 (by omega)
              · rw [emp_app, Str.length_append, Str.length_append]
                exact le17 (by omega)
              · rw [emp_app, Str.length_append, Str.length_append, Str.length_append]
                exact le17 (by show _ + _ + _ + (numS a).length ≤ _; omega)
              · rw [emp_app, Str.length_append, Str.length_append, Str.length_append, Str.length_append]
                exact le17 (by show _ + _ + _ + (numS a).length + _ ≤ _; omega)
              · rw [emp_app, Str.length_append, Str.length_append, Str.length_append, Str.length_append, Str.length_append]
                exact le17 (by show _ + _ + _ + (numS a).length + _ + (numS b).length ≤ _; omega)
              · rw [emp_app, Str.length_append, Str.length_append, Str.length_append, Str.length_append, Str.length_append, Str.length_append]
                exact le17 (by show _ + _ + _ + (numS a).length + _ + (numS b).length + _ ≤ _; omega)
              · rw [emp_app]
                exact le17 (by show ("road " ++ l ++ " " ++ numS a ++ " " ++ numS b ++ " " ++ numS c).length ≤ _; omega)
              · rw [emp_app]
                exact hK H5 (Kp.refl [] H5)
    · have hp45 := k5.at0 (show upd (upd H2 p3 (HO.lst ([V.str "places"] ++ (ps.map numS).map V.str))) p4 (HO.lst [V.str (placesX ps)]) p4 = some (.lst [V.str (placesX ps)]) from upd_same)
      refine ⟨p4, G, [V.str (placesX ps)], _, rfl, rfl, hp45, hG5, (by rw [List.length_map, List.length_map, sizeLine_eq]; show 1 + _ ≤ _; omega), fun p6 hp6 => ?_⟩
      have k6 := (k4.trans k5).new hp6 (.lst ([V.str (placesX ps)] ++ (ds.map roadX).map V.str))
      refine ⟨"\n", p6, placesX ps :: ds.map roadX, rfl, rfl, .inl (SqL.of upd_same), join_ok (sep := "\n") (n := 600) (m := 201) (fun x hx => ?_) (by rw [List.length_cons, List.length_map]; omega), q _ k6⟩
      rcases List.mem_cons.mp hx with rfl | hx
      · have : ps.length.succ * 8 ≤ 65 * 8 := Nat.mul_le_mul_right _ (by omega)
        omega
      · obtain ⟨d, hd, rfl⟩ := List.mem_map.mp hx
        have := road_len (h3 d hd) h1
        omega
    · obtain ⟨a, xs, r1, r2, r3, v1, _, rfl, v2, _, rfl, v3, _, rfl, v4, _, rfl, rfl, r4⟩ := q
      exact ⟨a, _, r1, r2, r3, _, _, rfl, _, _, rfl, _, _, rfl, _, _, rfl, rfl, h _ _ r4⟩
end
end T65
end
section
/-! Mu: the six kinds of drawn things. -/
namespace T65
open PySem PySem.W TL
/-- rules, letters of a rule -/
def cntR : Nat → PyData → Nat
  | 0, _ => 0
  | k + 1, d => match d with
    | .tuple [.str kd, e] => if kd = "word" then 1 else if kd = "again" then 1 + cntR k e else 1 + ((kidsD e).map (cntR k)).sum
    | _ => 0
def letR : Nat → PyData → Nat
  | 0, _ => 0
  | k + 1, d => match d with
    | .tuple [.str kd, e] => if kd = "word" then (kidsD e).length else if kd = "again" then letR k e else ((kidsD e).map (letR k)).sum
    | _ => 0
def RuleOk (d : PyData) : Prop := RK 4 d ∧ cntR 4 d ≤ 20 ∧ letR 4 d ≤ 8
inductive Th where
  | rule (d : PyData)
  | word (ls : List Str)
  | route (ds : List PyData)
  | pos (ns : List Nat)
  | net (ps : List Nat) (ds : List PyData)
  | book (nds : List (Str × PyData))
def Th.way : Th → Str
  | .rule _ => "rule"
  | .word _ => "word"
  | .route _ => "route"
  | .pos _ => "positions"
  | .net _ _ => "net"
  | .book _ => "book"
def Th.data : Th → PyData
  | .rule d => d
  | .word ls => tupS ls
  | .route ds => .tuple ds
  | .pos ns => tupI ns
  | .net ps ds => .tuple [tupI ps, .tuple ds]
  | .book nds => dicD nds
def Th.text : Th → Str
  | .rule d => ruleX 4 d
  | .word ls => wordX ls
  | .route ds => routeX ds
  | .pos ns => posX ns
  | .net ps ds => netX ps ds
  | .book nds => bookX nds
def nms : List Str := ["a", "zz", "word", "b", "c", "d", "e", "f", "g", "hh"]
def Th.ok : Th → Prop
  | .rule d => RuleOk d
  | .word ls => (∀ l ∈ ls, l ∈ Lts) ∧ ls.length ≤ 30
  | .route ds => (∀ d ∈ ds, StepOk d) ∧ ds.length ≤ 60
  | .pos ns => (∀ n ∈ ns, n ≤ 30) ∧ ns.length ≤ 30
  | .net ps ds => (∀ n ∈ ps, n ≤ 1000000) ∧ ps.Pairwise (· < ·) ∧ ps.length ≤ 64 ∧ (∀ d ∈ ds, RoadOk ps d) ∧ ds.length ≤ 200 ∧ sortD ds = ds
  | .book nds => (∀ q ∈ nds, q.1 ∈ nms ∧ RuleOk q.2) ∧ (nds.map (·.1)).Nodup ∧ nds.length ≤ 8
theorem nms_len {n : Str} (h : n ∈ nms) : n.length ≤ 8 := by
  revert n
  decide +kernel
end T65
end
section
/-! W29: the law's written. -/
namespace T65
open PySem PySem.Spec PyProof.Rows L2
/-- v bears the thing -/
def ThV (H : Hp) (v : V) (t : Th) : Prop := match t with
  | .book nds => ∃ (a : Addr) (kvs : List (Key × V)), v = .ref a ∧ H a = some (.dK kvs) ∧ KD H kvs nds
  | t => TD H v t.data
theorem ThV.dd {H : Hp} {v : V} {t : Th} (h : ThV H v t) : DD H v t.data := by
  cases t with
  | book nds =>
    obtain ⟨a, kvs, rfl, h1, h2⟩ := h
    exact .inr ⟨a, kvs, nds, rfl, h1, h2, rfl⟩
  | _ => exact .inl h
theorem ThV.kp {H H' : Hp} {v : V} {t : Th} (h : ThV H v t) (k : Kp [] H H') : ThV H' v t := by
  cases t with
  | book nds =>
    obtain ⟨a, kvs, rfl, h1, h2⟩ := h
    exact ⟨a, kvs, rfl, k.at0 h1, h2.tu k.tu⟩
  | rule d => exact TD.tu k.tu h
  | word d => exact TD.tu k.tu h
  | route d => exact TD.tu k.tu h
  | pos d => exact TD.tu k.tu h
  | net d e => exact TD.tu k.tu h
def spWritten : Sp := fun vs H Q _ => ∃ (v : V) (t : Th), vs = [.str t.way, v] ∧ ThV H v t ∧ t.ok ∧ ∀ H', Kp [] H H' → Q (.str t.text) H'
section
variable {P : Program} {w : World} {K : PySem.W.Frag} {mg : Str → Option Value} {base : Heap} {C S f : Addr} {fd : FuncData}
theorem ok_law_written (g : G65 K mg C S) (F : Fn K "_law_written" s_law_written f fd) (gF : mg "_law_written" = some (.ref f)) (c_format_rule : Cal P w K mg base CX0 5 "format_rule" p_format_rule (spFmt 4)) (c_format_book : Cal P w K mg base CX0 6 "format_book" p_format_book spFBook) (c_format_net : Cal P w K mg base CX0 1 "format_net" p_format_net spFNet)
    (c_format_route : Cal P w K mg base CX0 1 "format_route" p_format_route spFRoute) (c_format_word : Cal P w K mg base CX0 1 "format_word" p_format_word spFWord) (c_format_positions : Cal P w K mg base CX0 1 "format_positions" p_format_positions spFPos) :
    Cal P w K mg base CX0 7 "_law_written" p_law_written spWritten := by
  refine cal_of F gF sc_law_written (fun vs H Q E h => by obtain ⟨v, t, rfl, _⟩ := h; rfl) (fun cdv A outer s H vs Q E hr h => ⟨_,
      (pss_cons (ps_if (pt_cmpR op_in_seq (pv 0) (pe_tup (pa_cons pe_str (pa_cons pe_str pa_nil))) (by with_unfolding_all rfl))
        (pss_one (ps_ret (pe_ifExp (pt_cmpR op_eq (pv 0) pe_str (nomark _)) (pe_cal c_format_book hr pass0 (pa_cons (pv 1) pa_nil)) (pe_cal c_format_net hr pass0 (pa_cons (pv 1) pa_nil)))))
        pss_nil)
      (pss_cons (ps_if (pt_cmpR op_eq (pv 0) pe_str (nomark _))
        (pss_one (ps_ret (pe_cal c_format_rule hr pass0 (pa_cons (pv 1) pa_nil))))
        pss_nil)
      (pss_cons (ps_if (pt_cmpR op_eq (pv 0) pe_str (nomark _))
        (pss_one (ps_ret (pe_cal c_format_route hr pass0 (pa_cons (pv 1) pa_nil))))
        pss_nil)
      (pss_one (ps_ret (pe_ifExp (pt_cmpR op_eq (pv 0) pe_str (nomark _)) (pe_cal c_format_word hr pass0 (pa_cons (pv 1) pa_nil)) (pe_cal c_format_positions hr pass0 (pa_cons (pv 1) pa_nil)))))))), ?_⟩) (fun _ _ _ _ _ _ us hl => match us, hl with | [_, _], _ => rfl)
  obtain ⟨v, t, rfl, hd, ok, q⟩ := h
  have eIn : inV (.str t.way) ((["book", "net"] : List Str).map V.str) = (["book", "net"] : List Str).contains t.way := inV_strs _ _
  refine ⟨_, rfl, (by show 2 ≤ sizeLine; decide), fun p1 hp1 => ⟨p1, (["book", "net"] : List Str).map V.str, rfl, .inr (SqT.of upd_same), rfl, rfl, ?_⟩⟩
  have k1 := (Kp.refl [] H).new hp1 (.tup ((["book", "net"] : List Str).map V.str))
  rw [eIn]
  have hd1 := hd.kp k1
  replace q : ∀ H', Kp [] (upd H p1 (.tup ((["book", "net"] : List Str).map V.str))) H' → Q (.str t.text) H' := fun H' k => q H' (k1.trans k)
  obtain ⟨H1, hH1⟩ : ∃ Z : Hp, Z = upd H p1 (.tup [V.str "book", .str "net"]) := ⟨_, rfl⟩
  refine gen_H hH1.symm ?_
  replace hd1 : ThV (upd H p1 (.tup [V.str "book", .str "net"])) v t := hd1
  replace q : ∀ H', Kp [] (upd H p1 (.tup [V.str "book", .str "net"])) H' → Q (.str t.text) H' := q
  rw [← hH1] at hd1 q
  cases t with
  | book nds =>
    obtain ⟨a, kvs, rfl, h1, h2⟩ := hd1
    obtain ⟨o1, o2, o3⟩ := ok
    refine ⟨_, rfl, ite2 (fun _ => ?_) (fun z => absurd (by rfl) z)⟩
    refine ⟨_, rfl, rfl, _, rfl, ite2 (fun _ => ?_) (fun z => absurd (by rfl) z)⟩
    exact ⟨_, rfl, a, kvs, nds, rfl, h1, h2, fun q hq => ⟨nms_len (o1 q hq).1, (o1 q hq).2.1⟩, o3, q⟩
  | net ps ds =>
    obtain ⟨o1, o2, o3, o4, o5, o6⟩ := ok
    refine ⟨_, rfl, ite2 (fun _ => ?_) (fun z => absurd (by rfl) z)⟩
    refine ⟨_, rfl, rfl, _, rfl, ite2 (fun z => absurd (show decide (V.str "net" = V.str "book") = true from z) (by decide)) (fun _ => ?_)⟩
    exact ⟨_, rfl, v, ps, ds, rfl, hd1, o1, o3, o4, o5, q⟩
  | rule d =>
    refine ⟨_, rfl, ite2 (fun z => absurd (show (["book", "net"] : List Str).contains ("rule" : Str) = true from z) (by decide)) (fun _ => ?_)⟩
    refine ⟨_, rfl, rfl, _, rfl, ite2 (fun _ => ?_) (fun z => absurd (by rfl) z)⟩
    exact ⟨_, rfl, v, d, rfl, hd1, ok.1, by omega, q⟩
  | route ds =>
    refine ⟨_, rfl, ite2 (fun z => absurd (show (["book", "net"] : List Str).contains ("route" : Str) = true from z) (by decide)) (fun _ => ?_)⟩
    refine ⟨_, rfl, rfl, _, rfl, ite2 (fun z => absurd (show decide (V.str "route" = V.str "rule") = true from z) (by decide)) (fun _ => ?_)⟩
    refine ⟨_, rfl, rfl, _, rfl, ite2 (fun _ => ?_) (fun z => absurd (by rfl) z)⟩
    exact ⟨_, rfl, v, ds, rfl, hd1, ok.1, ok.2, q⟩
  | word ls =>
    refine ⟨_, rfl, ite2 (fun z => absurd (show (["book", "net"] : List Str).contains ("word" : Str) = true from z) (by decide)) (fun _ => ?_)⟩
    refine ⟨_, rfl, rfl, _, rfl, ite2 (fun z => absurd (show decide (V.str "word" = V.str "rule") = true from z) (by decide)) (fun _ => ?_)⟩
    refine ⟨_, rfl, rfl, _, rfl, ite2 (fun z => absurd (show decide (V.str "word" = V.str "route") = true from z) (by decide)) (fun _ => ?_)⟩
    refine ⟨_, rfl, rfl, _, rfl, ite2 (fun _ => ?_) (fun z => absurd (by rfl) z)⟩
    exact ⟨_, rfl, v, ls, rfl, hd1, ok.1, ok.2, q⟩
  | pos ns =>
    refine ⟨_, rfl, ite2 (fun z => absurd (show (["book", "net"] : List Str).contains ("positions" : Str) = true from z) (by decide)) (fun _ => ?_)⟩
    refine ⟨_, rfl, rfl, _, rfl, ite2 (fun z => absurd (show decide (V.str "positions" = V.str "rule") = true from z) (by decide)) (fun _ => ?_)⟩
    refine ⟨_, rfl, rfl, _, rfl, ite2 (fun z => absurd (show decide (V.str "positions" = V.str "route") = true from z) (by decide)) (fun _ => ?_)⟩
    refine ⟨_, rfl, rfl, _, rfl, ite2 (fun z => absurd (show decide (V.str "positions" = V.str "word") = true from z) (by decide)) (fun _ => ?_)⟩
    exact ⟨_, rfl, v, ns, rfl, hd1, ok.1, ok.2, q⟩
end
end T65
end
section
/-! W30: the law's parsed: the program's reading, its problem caught. -/
namespace T65
open PySem PySem.Spec PyProof.Rows L2
/-- the classes of errors, as the module keeps them -/
structure SpF (K : PySem.W.Frag) (mg : Str → Option Value) (R S : Addr) : Prop where
  xf : XfC K S
  is : IsC K S
  line : PySem.W.findIn K (.ref S) "line" = some none
  column : PySem.W.findIn K (.ref S) "column" = some none
  ex : PySem.W.exmOne K (.ref S) (.ref R) = some true
  RoadError : mg "RoadError" = some (.ref R)
def spParsed : Sp := fun vs H Q _ => ∃ way x : Str, vs = [.str way, .str x] ∧ x.length < 2 ^ 17 ∧ ∀ (H' : Hp) (v : V), Kp [] H H' → DD H' v (outD (readM way x)) → Q v H'
section
variable {X : Cx} {k j : Nat} {x : Str} {ps : List Str} {sp : Sp} {p pos : Pos} {e : Expr} {es : List Expr} {t : TA} {W : WX}
theorem pe_calS (c : Cal X.prog X.w X.K X.mg X.base (L2.CX X.prog X.w) j x ps sp) (hr : Room k X.A) (tk : Takes X W) (ha : PA X (e :: es) t) (hj : j ≤ k := by first | decide | exact Nat.le_refl _ | omega) (hg : Gl X x := by rfl)
    (hdb : (x == ("__debug__" : Str)) = false := by decide) (he : starEach (e :: es) X.env = (false, eval e X.env) :: starEach es X.env := by rfl) (hpl : (backTo pos (starEach es X.env)).any (·.1) = false := by rfl) :
    PE X (.Call (.Name x p) (e :: es) [] pos) (tCallS sp (WE W) t) := by
  obtain ⟨f, fd, h1, h2, h3, h4⟩ := c
  exact pe_callS h1 (hr.mono hj) hg h2 h3 h4 (passAt tk) ha hdb he hpl
theorem takes_no {P : Program} {w : World} {K : PySem.W.Frag} {mg : Str → Option Value} {base : Heap} {N : List Str} {qual : Str} {scope : Scope} {f : Addr} {cd : Value} {A : Around} {outer : List Env} {s : Shared} {H : Hp} {E : XK} : Takes (cxOf CX0 P w K mg base N qual scope f cd A outer s H E) (fun _ _ _ _ => False) := fun u s' h => by
  obtain ⟨_, _, _, _, _, _, _, _, _, _, _, _, _, _, _, _, z⟩ := h
  exact z.elim
end
theorem ok_law_parsed {P : Program} {w : World} {K : PySem.W.Frag} {mg : Str → Option Value} {base : Heap} {C S R f : Addr} {fd : FuncData} (g : G65 K mg C S) (gs : SpF K mg R S) (F : Fn K "_law_parsed" s_law_parsed f fd) (gF : mg "_law_parsed" = some (.ref f))
    (c_parse_book : Cal P w K mg base (L2.CX P w) 23 "parse_book" p_parse_book (spParse S rdBook)) (c_parse_net : Cal P w K mg base (L2.CX P w) 6 "parse_net" p_parse_net (spParse S netM))
    (c_parse_rule : Cal P w K mg base (L2.CX P w) 23 "parse_rule" p_parse_rule (spParse S fun x => at1 (rdRule x))) (c_parse_route : Cal P w K mg base (L2.CX P w) 6 "parse_route" p_parse_route (spParse S fun x => at1 (rdRoute x)))
    (c_parse_word : Cal P w K mg base (L2.CX P w) 5 "parse_word" p_parse_word (spParse S fun x => at1 (rdWord x))) (c_parse_positions : Cal P w K mg base (L2.CX P w) 6 "parse_positions" p_parse_positions (spParse S fun x => at1 (rdPos x))) :
    Cal P w K mg base CX0 24 "_law_parsed" p_law_parsed spParsed := by
  refine cal_of F gF sc_law_parsed (fun vs H Q E h => by obtain ⟨way, x, rfl, _⟩ := h; rfl) (fun cdv A outer s H vs Q E hr h => ⟨_,
      (pss_cons (ps_asg (pe_tup (pa_cons pe_non (pa_cons pe_non pa_nil))) (pg_tup rfl (pgs_cons (pg_name (i := 2) sc_law_parsed.nd rfl (by first | exact Or.inl rfl | exact Or.inr rfl)) (pgs_cons (pg_name (i := 3) sc_law_parsed.nd rfl (by first | exact Or.inl rfl | exact Or.inr rfl)) pgs_nil))))
      (pss_cons (ps_try_cau (i := 4) rfl rfl rfl sc_law_parsed.nd rfl rfl ⟨rfl, by decide, .inl gs.RoadError⟩ takes_no
        (fun W pn xe tk _ => (pss_one (ps_if (pt_cmpR op_eq (pv 0) pe_str (nomark _))
        (pss_one (ps_set (i := 3) sc_law_parsed.nd rfl (by first | exact Or.inl rfl | exact Or.inr rfl) (pe_calS c_parse_book hr tk (pa_cons (pv 1) pa_nil))))
        (pss_one (ps_if (pt_cmpR op_eq (pv 0) pe_str (nomark _))
          (pss_one (ps_set (i := 3) sc_law_parsed.nd rfl (by first | exact Or.inl rfl | exact Or.inr rfl) (pe_calS c_parse_net hr tk (pa_cons (pv 1) pa_nil))))
          (pss_one (ps_if (pt_cmpR op_eq (pv 0) pe_str (nomark _))
            (pss_one (ps_set (i := 3) sc_law_parsed.nd rfl (by first | exact Or.inl rfl | exact Or.inr rfl) (pe_calS c_parse_rule hr tk (pa_cons (pv 1) pa_nil))))
            (pss_one (ps_if (pt_cmpR op_eq (pv 0) pe_str (nomark _))
              (pss_one (ps_set (i := 3) sc_law_parsed.nd rfl (by first | exact Or.inl rfl | exact Or.inr rfl) (pe_calS c_parse_route hr tk (pa_cons (pv 1) pa_nil))))
              (pss_one (ps_set (i := 3) sc_law_parsed.nd rfl (by first | exact Or.inl rfl | exact Or.inr rfl) (pe_ifExp (pt_cmpR op_eq (pv 0) pe_str (nomark _)) (pe_calS c_parse_word hr tk (pa_cons (pv 1) pa_nil)) (pe_calS c_parse_positions hr tk (pa_cons (pv 1) pa_nil))))))))))))))
        (fun a pn => (pss_one (ps_set (i := 2) sc_law_parsed.nd rfl (by first | exact Or.inl rfl | exact Or.inr rfl) (pv 4)))))
      (pss_cons (ps_if (pt_cmpR op_isN (pv 2) pe_non (nomark _))
        (pss_one (ps_ret (pv 3)))
        pss_nil)
      (pss_one (ps_ret (pe_ifExp (pt_val (pe_callB (call_isC gs.is) rfl g.isinstance rfl (pa_cons (pv 2) (pa_cons (pe_glob (v := .ref S) rfl g.SyntaxProblem rfl) pa_nil)))) (pe_tup (pa_cons pe_str (pa_cons (pe_xfC (pv 2) rfl) (pa_cons (pe_xfC (pv 2) rfl) pa_nil)))) pe_str)))))), ?_⟩) (fun _ _ _ _ _ _ us hl => match us, hl with | [_, _], _ => rfl)
  obtain ⟨way, x, rfl, hx, q⟩ := h
  refine ⟨(by show 2 ≤ sizeLine; decide), fun p hp => ⟨p, [.non, .non], rfl, SqT.of upd_same, rfl, _, _, rfl, _, _, rfl, rfl, ?_⟩⟩
  have k1 := (Kp.refl [] H).new hp (.tup [.non, .non])
  obtain ⟨H1, hH1⟩ : ∃ Z : Hp, Z = upd H p (.tup [.non, .non]) := ⟨_, rfl⟩
  rw [← hH1] at k1
  dsimp only
  refine gen_H hH1.symm ?_
  refine seq_Z fun Z hZ => ?_
  have good : ∀ (v : V) (d : PyData) (H' : Hp), Kp [] H1 H' → DD H' v d → d = outD (readM way x) → Z [some (.str way), some (.str x), some .non, some v, none] H' := fun v d H' k t e => by
    subst e
    rw [hZ]
    exact ⟨_, rfl, rfl, _, rfl, ite2 (fun _ => ⟨_, rfl, q H' v (k1.trans k) t⟩) (fun z => absurd (by rfl) z)⟩
  have bad : ∀ (n c : Nat) (H' : Hp) (d a : Addr), Kp [] H1 H' → H' d = some (.xd [("column", .int (c : Nat)), ("line", .int (n : Nat))]) → probD n c = outD (readM way x) → H' a = none →
      Z [some (.str way), some (.str x), some (.ref a), some .non, none] (upd H' a (cau (.ref S) (some d) a)) := fun n c H' d a k hd e ha => by
    rw [hZ]
    have k2 := k.new ha (cau (.ref S) (some d) a)
    have da : d ≠ a := ne_of_none hd ha
    have hd2 : upd H' a (cau (.ref S) (some d) a) d = some (.xd [("column", .int (c : Nat)), ("line", .int (n : Nat))]) := by
      rw [upd_ne da]
      exact hd
    refine ⟨_, rfl, rfl, _, rfl, ite2 (fun z => absurd (of_decide_eq_true z) (by simp)) (fun _ => ?_)⟩
    refine ⟨_, rfl, a, d, _, rfl, upd_same, hd2, _, rfl, ite2 (fun _ => ?_) (fun z => absurd (by rfl) z)⟩
    refine ⟨_, rfl, a, S, d, _, _, rfl, gs.xf, gs.line, upd_same, hd2, rfl, _, rfl, a, S, d, _, _, rfl, gs.xf, gs.column, upd_same, hd2, rfl, (by show 3 ≤ sizeLine; decide), fun p2 hp2 => ?_⟩
    exact q _ _ (k1.trans (k2.new hp2 _)) (.inl (e ▸ TD.tup upd_same (.cons (.str _) (.cons (.int _) (TDs.one (.int _))))))
  have fin : ∀ (r : Except (Nat × Nat) PyData) (Q' : VK) (E' : XK), r = readM way x → (∀ (v : V) (H' : Hp), Z [some (.str way), some (.str x), some .non, some v, none] H' → Q' v H') →
      (∀ (d : Addr) (H' : Hp), (∀ a, H' a = none → Z [some (.str way), some (.str x), some (.ref a), some .non, none] (upd H' a (cau (.ref S) (some d) a))) → E' (.ref S) (some d) H') → Rds S r H1 Q' E' := fun r Q' E' e hq he => by
    cases r with
    | ok d => exact fun H' v k t => hq v H' (good v d H' k t (by rw [← e]; rfl))
    | error nc =>
      obtain ⟨n, c⟩ := nc
      exact fun H' d k hd => he d H' fun a ha => bad n c H' d a k hd (by rw [← e]; rfl) ha
  refine ⟨_, rfl, rfl, _, rfl, ite2 (fun h2 => ?_) (fun h2 => ?_)⟩
  · have e2 : way = "book" := by simpa using h2
    exact ⟨_, rfl, x, rfl, hx, fin _ _ _ (by rw [e2]; rfl) (fun v H' z => z) (fun d H' z => ⟨true, gs.ex, fun _ a ha => ⟨_, rfl, z a ha⟩, fun z => nomatch z⟩)⟩
  · have n2 : way ≠ "book" := by simpa using h2
    refine ⟨_, rfl, rfl, _, rfl, ite2 (fun h3 => ?_) (fun h3 => ?_)⟩
    · have e3 : way = "net" := by simpa using h3
      exact ⟨_, rfl, x, rfl, hx, fin _ _ _ (by rw [e3]; rfl) (fun v H' z => z) (fun d H' z => ⟨true, gs.ex, fun _ a ha => ⟨_, rfl, z a ha⟩, fun z => nomatch z⟩)⟩
    · have n3 : way ≠ "net" := by simpa using h3
      have er : readM way x = if way = "rule" then at1 (rdRule x) else if way = "route" then at1 (rdRoute x) else if way = "word" then at1 (rdWord x) else at1 (rdPos x) := by
        unfold readM
        rw [if_neg n2, if_neg n3]
      refine ⟨_, rfl, rfl, _, rfl, ite2 (fun h4 => ?_) (fun h4 => ?_)⟩
      · have e4 : way = "rule" := by simpa using h4
        exact ⟨_, rfl, x, rfl, hx, fin _ _ _ (by rw [er, if_pos e4]) (fun v H' z => z) (fun d H' z => ⟨true, gs.ex, fun _ a ha => ⟨_, rfl, z a ha⟩, fun z => nomatch z⟩)⟩
      · have n4 : way ≠ "rule" := by simpa using h4
        refine ⟨_, rfl, rfl, _, rfl, ite2 (fun h5 => ?_) (fun h5 => ?_)⟩
        · have e5 : way = "route" := by simpa using h5
          exact ⟨_, rfl, x, rfl, hx, fin _ _ _ (by rw [er, if_neg n4, if_pos e5]) (fun v H' z => z) (fun d H' z => ⟨true, gs.ex, fun _ a ha => ⟨_, rfl, z a ha⟩, fun z => nomatch z⟩)⟩
        · have n5 : way ≠ "route" := by simpa using h5
          refine ⟨_, rfl, rfl, _, rfl, ite2 (fun h6 => ?_) (fun h6 => ?_)⟩
          · have e6 : way = "word" := by simpa using h6
            exact ⟨_, rfl, x, rfl, hx, fin _ _ _ (by rw [er, if_neg n4, if_neg n5, if_pos e6]) (fun v H' z => z) (fun d H' z => ⟨true, gs.ex, fun _ a ha => ⟨_, rfl, z a ha⟩, fun z => nomatch z⟩)⟩
          · have n6 : way ≠ "word" := by simpa using h6
            exact ⟨_, rfl, x, rfl, hx, fin _ _ _ (by rw [er, if_neg n4, if_neg n5, if_neg n6]) (fun v H' z => z) (fun d H' z => ⟨true, gs.ex, fun _ a ha => ⟨_, rfl, z a ha⟩, fun z => nomatch z⟩)⟩
end T65
end
section
/-! W31: drawing: a number below a bound, an item of a row. -/
namespace T65
open PySem PySem.Spec PyProof.Rows L2
def spKnead : Sp := fun vs H Q _ => ∃ i j : Int, vs = [.int i, .int j] ∧ ∀ n : Int, Q (.int n) H
/-- the pot at p: its cells, and three numbers -/
def PotOk (H : Hp) (p c : Addr) : Prop := ∃ (cs : List Int) (i a b : Int), c ≠ p ∧ H p = some (.lst [.ref c, .int i, .int a, .int b]) ∧ H c = some (.lst (cs.map V.int))
theorem PotOk.kp {H H' : Hp} {p c : Addr} (h : PotOk H p c) (k : Kp [] H H') : PotOk H' p c := by
  obtain ⟨cs, i, a, b, h1, h2, h3⟩ := h
  exact ⟨cs, i, a, b, h1, k.at0 h2, k.at0 h3⟩
def spBelow : Sp := fun vs H Q _ => ∃ (p c : Addr) (b : Nat), vs = [.ref p, .int b] ∧ PotOk H p c ∧ 0 < b ∧ b < 2 ^ 29 ∧ ∀ (H' : Hp) (n : Nat), Kp [p] H H' → PotOk H' p c → n < b → Q (.int n) H'
def spPick (K : PySem.W.Frag) : Sp := fun vs H Q _ => ∃ (p c l : Addr) (xs : List V), vs = [.ref p, .ref l] ∧ PotOk H p c ∧ l ≠ p ∧ (H l = some (.lst xs) ∨ H l = some (.tup xs)) ∧ xs ≠ [] ∧ xs.length < 2 ^ 29 ∧ ∀ (H' : Hp) (v : V), Kp [p] H H' → PotOk H' p c → v ∈ xs → Q v H'
section
variable {P : Program} {w : World} {K : PySem.W.Frag} {mg : Str → Option Value} {base : Heap} {C S f : Addr} {fd : FuncData}
theorem ok_law_kneaded (g : G65 K mg C S) (F : Fn K "_law_kneaded" s_law_kneaded f fd) (gF : mg "_law_kneaded" = some (.ref f)) : Cal P w K mg base CX0 1 "_law_kneaded" p_law_kneaded spKnead := by
  refine cal_of F gF sc_law_kneaded (fun vs H Q E h => by obtain ⟨i, j, rfl, _⟩ := h; rfl) (fun cdv A outer s H vs Q E hr h => ⟨_,
      (pss_cons (ps_set (i := 2) sc_law_kneaded.nd rfl (by first | exact Or.inl rfl | exact Or.inr rfl) pe_int)
      (pss_cons (ps_set (i := 3) sc_law_kneaded.nd rfl (by first | exact Or.inl rfl | exact Or.inr rfl) (pe_op op_mod (pe_op op_add (pe_op op_add (pe_op op_mul (pv 0) pe_int) (pe_op op_mul (pv 1) pe_int)) pe_int) (pv 2)))
      (pss_cons (ps_for (passes_of rfl) rfl (pi_range1 rfl g.range (pa_cons pe_int pa_nil)) (pg_name (i := 4) sc_law_kneaded.nd rfl (by first | exact Or.inl rfl | exact Or.inr rfl))
        (pss_one (ps_set (i := 3) sc_law_kneaded.nd rfl (by first | exact Or.inl rfl | exact Or.inr rfl) (pe_op op_mod (pe_op op_add (pe_op op_add (pe_op op_add (pe_op op_mul (pv 3) (pv 3)) (pe_op op_mul pe_int (pv 3))) (pe_op op_mul pe_int (pv 4))) (pv 1)) (pv 2)))))
      (pss_one (ps_ret (pe_op op_add (pe_op op_mul (pv 3) (pv 2)) (pe_op op_mod (pe_op op_add (pe_op op_mul (pv 3) pe_int) (pv 1)) (pv 2)))))))), ?_⟩) (fun _ _ _ _ _ _ us hl => match us, hl with | [_, _], _ => rfl)
  obtain ⟨i, j, rfl, q⟩ := h
  refine ⟨_, rfl, _, _, rfl, rfl, .inr (by decide), _, rfl, _, _, rfl, rfl, .inr (by decide), _, _, rfl, rfl, _, _, rfl, rfl, _, rfl, _, _, rfl, rfl, (by show (0 : Int) < 2305843009213693907; decide), ?_⟩
  generalize hA : (i * 2862933555777941757 + j * 3037000493 + 29) % 2305843009213693907 = a0
  have a01 : 0 ≤ a0 := by omega
  have a02 : a0 < 2305843009213693907 := by omega
  refine ⟨4, rfl, by decide, by decide, ?_⟩
  refine for_by 4 (fun _ σ H1 => ∃ (a : Int) (e4 : Option V), σ = [some (.int i), some (.int j), some (.int 2305843009213693907), some (.int a), e4] ∧ H1 = H ∧ 0 ≤ a ∧ a < 2305843009213693907)
    ⟨a0, none, by rw [← hA]; rfl, rfl, a01, a02⟩ (fun i σ H6 hi _ => hi) (fun σ H6 _ => Nat.le_refl _) (fun t v σ H6 H7 hi hP hy => ?_) (fun σ H6 hP => ?_)
  · obtain ⟨a, e4, rfl, rfl, b1, b2⟩ := hP
    obtain ⟨rfl, rfl⟩ := hy
    refine ⟨_, rfl, _, rfl, _, _, rfl, rfl, .inl ⟨by omega, by omega⟩, _, rfl, _, _, rfl, rfl, .inl ⟨by decide, by decide⟩, _, _, rfl, rfl, _, rfl, _, _, rfl, rfl, .inl ⟨by decide, by decide⟩, _, _, rfl, rfl, _, rfl, _, _, rfl, rfl, _, rfl, _, _, rfl, rfl, (by show (0 : Int) < 2305843009213693907; decide), ?_⟩
    exact ⟨_, _, rfl, rfl, by omega, by omega⟩
  · obtain ⟨a, e4, rfl, rfl, b1, b2⟩ := hP
    exact ⟨_, rfl, _, rfl, _, _, rfl, rfl, .inl ⟨by omega, by omega⟩, _, rfl, _, _, rfl, rfl, .inl ⟨by omega, by omega⟩, _, rfl, _, _, rfl, rfl, _, rfl, _, _, rfl, rfl, (by show (0 : Int) < 2305843009213693907; decide), _, _, rfl, rfl, q _⟩
theorem ok_law_below (g : G65 K mg C S) (F : Fn K "_law_below" s_law_below f fd) (gF : mg "_law_below" = some (.ref f)) (c_law_kneaded : Cal P w K mg base CX0 1 "_law_kneaded" p_law_kneaded spKnead) : Cal P w K mg base CX0 2 "_law_below" p_law_below spBelow := by
  refine cal_of F gF sc_law_below (fun vs H Q E h => by obtain ⟨p, c, b, rfl, _⟩ := h; rfl) (fun cdv A outer s H vs Q E hr h => ⟨_,
      (pss_cons (ps_if (pt_cmpR op_lt (pe_ix (r := rIxL K) ix_list (pv 0) pe_int (fun _ _ => rfl)) (pv 1) (nomark _))
        (pss_cons (ps_par (i := 2) (j := 3) rfl sc_law_below.nd rfl rfl (by decide) rfl rfl (pa_cons (pe_ix (r := rIxL K) ix_list (pv 0) pe_int (fun _ _ => rfl)) (pa_cons (pe_ix (r := rIxL K) ix_list (pv 0) pe_int (fun _ _ => rfl)) pa_nil)) rfl)
        (pss_cons (ps_set (i := 4) sc_law_below.nd rfl (by first | exact Or.inl rfl | exact Or.inr rfl) (pe_ifExp (pt_cmpR (op_neNil (hu64 hr)) (pv 2) (pe_lst pa_nil) (nomark _)) (pe_ix (r := rIxL K) ix_list (pv 2) (pe_op op_mod (pv 3) (pe_callB call_len rfl g.len rfl (pa_cons (pv 2) pa_nil))) (fun _ _ => rfl)) pe_int))
        (pss_cons (ps_if (PW.pt (pw_or (pt_cmpR op_ge (pv 3) (pe_callB call_len rfl g.len rfl (pa_cons (pv 2) pa_nil)) (nomark _)) (pw_or1 (pt_cmpR op_lt (pv 4) (pe_op op_pow pe_int pe_int) (nomark _)))))
          (pss_one (ps_set (i := 4) sc_law_below.nd rfl (by first | exact Or.inl rfl | exact Or.inr rfl) (pe_cal c_law_kneaded hr pass0 (pa_cons (pe_op op_mod (pe_callTy call_int1 rfl g.int rfl (pa_cons (pv 4) pa_nil)) pe_int) (pa_cons (pv 3) pa_nil)))))
          pss_nil)
        (pss_cons (ps_asg (pe_op op_add (pv 3) pe_int) (pg_sub (pv 0) pe_int set_list))
        (pss_cons (ps_asg (pv 4) (pg_sub (pv 0) pe_int set_list))
        (pss_one (ps_asg (pv 4) (pg_sub (pv 0) pe_int set_list))))))))
        pss_nil)
      (pss_cons (ps_set (i := 5) sc_law_below.nd rfl (by first | exact Or.inl rfl | exact Or.inr rfl) (pe_op op_mod (pe_callTy call_int1 rfl g.int rfl (pa_cons (pe_ix (r := rIxL K) ix_list (pv 0) pe_int (fun _ _ => rfl)) pa_nil)) (pv 1)))
      (pss_cons (ps_asg (pe_op op_fdiv (pe_ix (r := rIxL K) ix_list (pv 0) pe_int (fun _ _ => rfl)) (pv 1)) (pg_sub (pv 0) pe_int set_list))
      (pss_cons (ps_asg (pe_op op_fdiv (pe_ix (r := rIxL K) ix_list (pv 0) pe_int (fun _ _ => rfl)) (pv 1)) (pg_sub (pv 0) pe_int set_list))
      (pss_one (ps_ret (pv 5))))))), ?_⟩) (fun _ _ _ _ _ _ us hl => match us, hl with | [_, _], _ => rfl)
  obtain ⟨p, c, b, rfl, hP, hb, hb2, q⟩ := h
  obtain ⟨cs, x, y, z, hcp, hp, hc⟩ := hP
  refine seq_Z fun Z0 hZ0 => ?_
  have tail : ∀ (H2 : Hp) (x y z : Int) (e2 e3 e4 : Option V), Kp [p] H H2 → H2 p = some (.lst [.ref c, .int x, .int y, .int z]) → H2 c = some (.lst (cs.map V.int)) → Z0 [some (.ref p), some (.int b), e2, e3, e4, none] H2 := by
    intro H2 x y z e2 e3 e4 k hp2 hc2
    rw [hZ0]
    have hb' : (0 : Int) < b := by omega
    refine ⟨_, rfl, p, _, 2, .int y, rfl, rfl, SqL.of hp2, rfl, .inl ⟨_, rfl, _, rfl, _, _, rfl, rfl, hb', ?_⟩⟩
    refine ⟨_, rfl, p, _, 2, .int y, rfl, rfl, SqL.of hp2, rfl, _, rfl, _, _, rfl, rfl, ⟨hb', by omega⟩, _, rfl, p, _, 2, 2, rfl, rfl, hp2, rfl, ?_⟩
    have ch : ∀ {H' : Hp} {xs : List V}, H' p = some (.lst xs) → H' p = some (.lst xs) := fun e => e
    refine ⟨_, rfl, p, _, 3, .int z, rfl, rfl, SqL.of upd_same, rfl, _, rfl, _, _, rfl, rfl, ⟨hb', by omega⟩, _, rfl, p, _, 3, 3, rfl, rfl, upd_same, rfl, ?_⟩
    have e : y % (b : Int) = (((y % (b : Int)).toNat : Nat) : Int) := (Int.toNat_of_nonneg (Int.emod_nonneg _ (by omega))).symm
    have lt : y % (b : Int) < b := Int.emod_lt_of_pos _ hb'
    have pc : Chg (H p) := by rw [hp]; trivial
    have kk := (k.upR (List.mem_singleton.mpr rfl) pc (.lst [.ref c, .int x, .int (y / b), .int z])).upR (List.mem_singleton.mpr rfl) pc (.lst [.ref c, .int x, .int (y / b), .int (z / b)])
    have qq := q _ (y % (b : Int)).toNat kk ⟨cs, x, y / b, z / b, hcp, upd_same, by rw [upd_ne hcp, upd_ne hcp]; exact hc2⟩ (by omega)
    rw [← e] at qq
    exact ⟨_, rfl, qq⟩
  refine ⟨_, rfl, p, _, 3, .int z, rfl, rfl, SqL.of hp, rfl, _, rfl, _, _, rfl, rfl, _, rfl, ite2 (fun h1 => ?_) (fun h1 => ?_)⟩
  rotate_left
  · exact tail H x y z none none none (Kp.refl _ _) hp hc
  refine ⟨_, rfl, p, _, 0, .ref c, rfl, rfl, SqL.of hp, rfl, _, rfl, p, _, 1, .int x, rfl, rfl, SqL.of hp, rfl, _, _, rfl, ?_⟩
  dsimp only
  refine seq_Z fun Z1 hZ1 => ?_
  have mid : ∀ (H2 : Hp) (a : Int), Kp [] H H2 → Z1 [some (.ref p), some (.int b), some (.ref c), some (.int x), some (.int a), none] H2 := by
    intro H2 a k2
    rw [hZ1]
    have hp2 := k2.at0 hp
    have hc2 := k2.at0 hc
    refine seq_Z fun Z2 hZ2 => ?_
    have last : ∀ (H3 : Hp) (a : Int), H3 = H2 → Z2 [some (.ref p), some (.int b), some (.ref c), some (.int x), some (.int a), none] H3 := by
      intro H3 a e3
      subst e3
      rw [hZ2]
      have pc : Chg (H p) := by rw [hp]; trivial
      refine ⟨_, rfl, _, _, rfl, rfl, _, rfl, p, _, 1, 1, rfl, rfl, hp2, rfl, ?_⟩
      refine ⟨_, rfl, _, rfl, p, _, 2, 2, rfl, rfl, upd_same, rfl, ?_⟩
      refine ⟨_, rfl, _, rfl, p, _, 3, 3, rfl, rfl, upd_same, rfl, ?_⟩
      exact tail _ (x + 1) a a _ _ _ (((k2.any.upR (List.mem_singleton.mpr rfl) pc _).upR (List.mem_singleton.mpr rfl) pc _).upR (List.mem_singleton.mpr rfl) pc _) upd_same (by rw [upd_ne hcp, upd_ne hcp, upd_ne hcp]; exact hc2)
    refine ⟨_, rfl, _, rfl, _, _, rfl, .inl ⟨_, SqL.of hc2, rfl⟩, _, _, rfl, rfl, _, rfl, ite2 (fun h2 => ?_) (fun h2 => ?_)⟩
    · exact ⟨_, rfl, .inl ⟨_, rfl, _, _, rfl, rfl, (by show (0 : Int) < 982451629; decide), _, rfl, _, _, rfl, fun n => last H2 n rfl⟩⟩
    · refine ⟨_, rfl, _, _, rfl, rfl, (by unfold CPow; decide), _, _, rfl, rfl, _, rfl, ite2 (fun h3 => ?_) (fun h3 => ?_)⟩
      · exact ⟨_, rfl, .inl ⟨_, rfl, _, _, rfl, rfl, (by show (0 : Int) < 982451629; decide), _, rfl, _, _, rfl, fun n => last H2 n rfl⟩⟩
      · exact last H2 a rfl
  refine ⟨_, rfl, Nat.zero_le _, fun q0 hq0 => ⟨c, q0, cs.map V.int, rfl, rfl, SqL.of (((Kp.refl [] H).new hq0 (.lst [])).at0 hc), SqL.of upd_same, _, rfl, ite2 (fun h2 => ?_) (fun h2 => ?_)⟩⟩
  · have kq := (Kp.refl [] H).new hq0 (.lst [])
    have hne : 0 < cs.length := by
      cases cs with
      | nil => cases h2
      | cons _ _ => exact Nat.zero_lt_succ _
    have hl : (0 : Int) < ((cs.map V.int).length : Nat) := by rw [List.length_map]; omega
    refine ⟨_, rfl, _, rfl, _, rfl, _, _, rfl, .inl ⟨_, SqL.of (kq.at0 hc), rfl⟩, _, _, rfl, rfl, hl, ?_⟩
    have e : x % (((cs.map V.int).length : Nat) : Int) = (((x % (((cs.map V.int).length : Nat) : Int)).toNat : Nat) : Int) := (Int.toNat_of_nonneg (Int.emod_nonneg _ (by omega))).symm
    have lt := Int.emod_lt_of_pos x hl
    have lt2 : (x % (((cs.map V.int).length : Nat) : Int)).toNat < cs.length := by
      rw [List.length_map] at lt
      rw [List.length_map]
      omega
    refine ⟨c, _, _, .int cs[(x % (((cs.map V.int).length : Nat) : Int)).toNat], rfl, rfl, SqL.of (kq.at0 hc), ?_, ?_⟩
    · have at2 : ∀ (t : Int) (m : Nat) (hm : m < cs.length), t = (m : Int) → atI (cs.map V.int) t = some (.int cs[m]) := fun t m hm et => by
        subst et
        refine atI_nat ?_
        rw [List.getElem?_map, List.getElem?_eq_getElem hm]
        rfl
      exact at2 _ _ lt2 e
    · exact mid _ _ kq
  · exact mid _ 0 ((Kp.refl [] H).new hq0 (.lst []))
theorem ok_law_pick (g : G65 K mg C S) (F : Fn K "_law_pick" s_law_pick f fd) (gF : mg "_law_pick" = some (.ref f)) (c_law_below : Cal P w K mg base CX0 2 "_law_below" p_law_below spBelow) : Cal P w K mg base CX0 3 "_law_pick" p_law_pick (spPick K) := by
  refine cal_of F gF sc_law_pick (fun vs H Q E h => by obtain ⟨p, c, l, xs, rfl, _⟩ := h; rfl) (fun cdv A outer s H vs Q E hr h => ⟨_,
      (pss_one (ps_ret (pe_ix (r := rIx K) ix_seq (pv 1) (pe_cal c_law_below hr pass0 (pa_cons (pv 0) (pa_cons (pe_callB call_len rfl g.len rfl (pa_cons (pv 1) pa_nil)) pa_nil))) (fun _ _ => rfl)))), ?_⟩) (fun _ _ _ _ _ _ us hl => match us, hl with | [_, _], _ => rfl)
  obtain ⟨p, c, l, xs, rfl, hP, hlp, hl, hne, hln, q⟩ := h
  have pos : 0 < xs.length := List.length_pos_iff.mpr hne
  have at1 : ∀ (n : Nat), n < xs.length → ∃ v, xs[n]? = some v ∧ v ∈ xs := fun n hn => ⟨xs[n], List.getElem?_eq_getElem hn, List.getElem_mem hn⟩
  rcases hl with hl | hl
  · refine ⟨_, rfl, _, rfl, _, rfl, _, _, rfl, .inl ⟨_, SqL.of hl, rfl⟩, p, c, xs.length, rfl, hP, pos, hln, fun H2 n k2 hP2 hn => ?_⟩
    obtain ⟨v, hv, hm⟩ := at1 n hn
    exact .inl ⟨l, xs, n, v, rfl, rfl, SqL.of (k2.at_ hl (by simpa using hlp)), atI_nat hv, q H2 v k2 hP2 hm⟩
  · refine ⟨_, rfl, _, rfl, _, rfl, _, _, rfl, .inr ⟨_, SqT.of hl, rfl⟩, p, c, xs.length, rfl, hP, pos, hln, fun H2 n k2 hP2 hn => ?_⟩
    obtain ⟨v, hv, hm⟩ := at1 n hn
    exact .inr (.inl ⟨l, xs, n, v, rfl, rfl, SqT.of (k2.at_ hl (by simpa using hlp)), atI_nat hv, q H2 v k2 hP2 hm⟩)
end
end T65
end
section
/-! W32: letters and rules, drawn. -/
namespace T65
open PySem PySem.Spec PyProof.Rows L2
theorem PotOk.new {H : Hp} {p c a : Addr} (h : PotOk H p c) (ha : H a = none) (o : HO) : PotOk (upd H a o) p c := h.kp ((Kp.refl [] H).new ha o)
theorem PotOk.ne {H : Hp} {p c a : Addr} (h : PotOk H p c) (ha : H a = none) : a ≠ p := fun e => by
  obtain ⟨_, _, _, _, _, h2, _⟩ := h
  rw [← e, ha] at h2
  cases h2
/-- letters to draw from, at l -/
def LetA (H : Hp) (l p : Addr) : Prop := l ≠ p ∧ ∃ ls : List Str, H l = some (.lst (ls.map V.str)) ∧ ls ≠ [] ∧ ls.length ≤ 3 ∧ ∀ x ∈ ls, x ∈ Lts
theorem LetA.kp {H H' : Hp} {l p : Addr} (h : LetA H l p) (k : Kp [p] H H') : LetA H' l p := by
  obtain ⟨h1, ls, h2, h3⟩ := h
  exact ⟨h1, ls, k.at_ h2 (by simpa using h1), h3⟩
def spSomeL : Sp := fun vs H Q _ => ∃ p c : Addr, vs = [.ref p] ∧ PotOk H p c ∧ ∀ (H' : Hp) (l : Addr), Kp [p] H H' → PotOk H' p c → LetA H' l p → Q (.ref l) H'
def spDrawn (k : Nat) : Sp := fun vs H Q _ => ∃ (p c l : Addr), vs = [.ref p, .ref l, .int (k : Nat)] ∧ PotOk H p c ∧ LetA H l p ∧ 0 < k ∧ k ≤ 4 ∧ ∀ (H' : Hp) (v : V) (d : PyData), Kp [p] H H' → PotOk H' p c → TD H' v d → RK k d → Q v H'
/-- [.. for i in range(n)], each drawn -/
theorem lc_rng {H1 : Hp} {D p c : Addr} {g : TG} {te : TE} {vs : List Nat} {σ : L2.St} {Qd : Hp → Prop} (Good : PyData → Prop) (n : Nat) (hD : H1 D = none) (hP : PotOk H1 p c) (hn : n < sizeLine)
    (hs : ∀ (i : Int) (H : Hp) (Kc : VK), Kp [p] H1 H → PotOk H p c → (∀ (H' : Hp) (v : V) (d : PyData), Kp [p] H H' → PotOk H' p c → TD H' v d → Good d → Kc v H') → g (.int i) (wipe σ vs) H fun σ2 H2 => wipe σ2 vs = wipe σ vs ∧ te σ2 H2 Kc)
    (hd : ∀ (H : Hp) (us : List V) (ds : List PyData), Kp [p] H1 H → PotOk H p c → H D = some (.lst us) → TDs H us ds → ds.length = n → (∀ d ∈ ds, Good d) → Qd H) :
    ∃ W : Nat → Nat → Hp → Prop, (∃ m, W 0 m (upd H1 D (.lst []))) ∧ ∀ i m H, W i m H →
      ((Itr 0 n).stop i H ∧ Qd H) ∨ ((Itr 0 n).go i H ∧ ∃ Nx : Hp → Prop, (∀ H', Nx H' → ∃ m', m' < m ∧ W (i + 1) m' H') ∧ ∀ v H', (Itr 0 n).yld i H v H' → g v (wipe σ vs) H' fun σ2 H2 => wipe σ2 vs = wipe σ vs ∧ tYes σ2 H2 fun b H3 =>
        if b = true then te σ2 H3 fun y H4 => ∃ acc, H4 D = some (.lst acc) ∧ acc.length < sizeLine ∧ Nx (upd H4 D (.lst (acc ++ [y]))) else Nx H3) := by
  have hDp := hP.ne hD
  have hP0 := hP
  refine lc_by n (fun i H => Kp [p] H1 H ∧ PotOk H p c ∧ ∃ (us : List V) (ds : List PyData), H D = some (.lst us) ∧ TDs H us ds ∧ ds.length = i ∧ ∀ d ∈ ds, Good d) ⟨(Kp.refl [p] H1).new hD _, hP.new hD _, [], [], upd_same, .nil, rfl, fun _ z => by simp at z⟩ (fun i H hi hP => hi) (fun H hP => Nat.le_refl _) (fun i v H H' hi hP hy => ?_) (fun H hP => ?_)
  · obtain ⟨hk, hp, us, ds, h1, h2, h3, h4⟩ := hP
    obtain ⟨rfl, rfl⟩ := hy
    refine hs _ H' _ hk hp fun H2 v d k2 p2 t2 g2 => ?_
    have h12 := k2.at_ h1 (by simpa using hDp)
    have l1 := h2.len
    refine ⟨us, h12, by omega, (hk.trans k2).upN hD _, ?_, us ++ [v], ds ++ [d], upd_same, ?_, ?_, ?_⟩
    · have hcD : c ≠ D := by
        obtain ⟨_, _, _, _, _, _, q3⟩ := hP0
        exact ne_of_none q3 hD
      obtain ⟨cs, x, a, b, q1, q2, q3⟩ := p2
      exact ⟨cs, x, a, b, q1, by rw [upd_ne (Ne.symm hDp)]; exact q2, by rw [upd_ne hcD]; exact q3⟩
    · have tu : Tu H2 (upd H2 D (.lst (us ++ [v]))) := fun b xs e => by rw [upd_ne (ne_of e h12 (by simp))]; exact e
      exact ((h2.tu k2.tu).tu tu).app (TDs.one (t2.tu tu))
    · rw [List.length_append, h3]
      rfl
    · intro e he
      rcases List.mem_append.mp he with he | he
      · exact h4 e he
      · rw [List.mem_singleton.mp he]
        exact g2
  · obtain ⟨hk, hp, us, ds, h1, h2, h3, h4⟩ := hP
    exact hd H us ds hk hp h1 h2 h3 h4
section
variable {P : Program} {w : World} {K : PySem.W.Frag} {mg : Str → Option Value} {base : Heap} {C S f : Addr} {fd : FuncData}
abbrev LL1 : List Str := ["a"]
abbrev LL2 : List Str := ["a", "b"]
abbrev LL3 : List Str := ["a", "b", "c"]
abbrev LL4 : List Str := ["x@2", "x@10", "x"]
abbrev LL5 : List Str := ["a", "a@0", "b"]
theorem ok_law_some_letters (g : G65 K mg C S) (F : Fn K "_law_some_letters" s_law_some_letters f fd) (gF : mg "_law_some_letters" = some (.ref f)) (c_law_pick : Cal P w K mg base CX0 3 "_law_pick" p_law_pick (spPick K)) : Cal P w K mg base CX0 4 "_law_some_letters" p_law_some_letters spSomeL := by
  refine cal_of F gF sc_law_some_letters (fun vs H Q E h => by obtain ⟨p, c, rfl, _⟩ := h; rfl) (fun cdv A outer s H vs Q E hr h => ⟨_,
      (pss_one (ps_ret (pe_cal c_law_pick hr pass0 (pa_cons (pv 0) (pa_cons (pe_lst (pa_cons (pe_lst (pa_cons pe_str pa_nil)) (pa_cons (pe_lst (pa_cons pe_str (pa_cons pe_str pa_nil))) (pa_cons (pe_lst (pa_cons pe_str (pa_cons pe_str (pa_cons pe_str pa_nil)))) (pa_cons (pe_lst (pa_cons pe_str (pa_cons pe_str (pa_cons pe_str pa_nil)))) (pa_cons (pe_lst (pa_cons pe_str (pa_cons pe_str (pa_cons pe_str pa_nil)))) pa_nil)))))) pa_nil))))), ?_⟩) (fun _ _ _ _ _ _ us hl => match us, hl with | [_], _ => rfl)
  obtain ⟨p, c, rfl, hP, q⟩ := h
  refine ⟨_, rfl, (by show 1 ≤ sizeLine; decide), fun l1 f1 => ⟨(by show 2 ≤ sizeLine; decide), fun l2 f2 => ⟨(by show 3 ≤ sizeLine; decide), fun l3 f3 => ⟨(by show 3 ≤ sizeLine; decide), fun l4 f4 => ⟨(by show 3 ≤ sizeLine; decide), fun l5 f5 => ⟨(by show 5 ≤ sizeLine; decide), fun l6 f6 => ?_⟩⟩⟩⟩⟩⟩
  have k1 := (Kp.refl [] H).new f1 (.lst (LL1.map V.str))
  have k2 := (Kp.refl [] _).new f2 (.lst (LL2.map V.str))
  have k3 := (Kp.refl [] _).new f3 (.lst (LL3.map V.str))
  have k4 := (Kp.refl [] _).new f4 (.lst (LL4.map V.str))
  have k5 := (Kp.refl [] _).new f5 (.lst (LL5.map V.str))
  have k6 := (Kp.refl [] _).new f6 (.lst [.ref l1, .ref l2, .ref l3, .ref l4, .ref l5])
  have k56 := k5.trans k6
  have k46 := k4.trans k56
  have k36 := k3.trans k46
  have k26 := k2.trans k36
  have k16 := k1.trans k26
  have P1 := hP.new f1 (.lst (LL1.map V.str))
  have P2 := P1.new f2 (.lst (LL2.map V.str))
  have P3 := P2.new f3 (.lst (LL3.map V.str))
  have P4 := P3.new f4 (.lst (LL4.map V.str))
  have P5 := P4.new f5 (.lst (LL5.map V.str))
  refine ⟨p, c, l6, _, rfl, hP.kp k16, P5.ne f6, .inl upd_same, by simp, (by show 5 < 2 ^ 29; decide), fun H' v k hP' hv => ?_⟩
  have kk := k16.any.trans k
  simp only [List.mem_cons, List.not_mem_nil, or_false] at hv
  rcases hv with rfl | rfl | rfl | rfl | rfl
  · exact q H' l1 kk hP' ⟨hP.ne f1, LL1, k.at_ (k26.at0 upd_same) (by simpa using hP.ne f1), by decide, by decide, by decide⟩
  · exact q H' l2 kk hP' ⟨P1.ne f2, LL2, k.at_ (k36.at0 upd_same) (by simpa using P1.ne f2), by decide, by decide, by decide⟩
  · exact q H' l3 kk hP' ⟨P2.ne f3, LL3, k.at_ (k46.at0 upd_same) (by simpa using P2.ne f3), by decide, by decide, by decide⟩
  · exact q H' l4 kk hP' ⟨P3.ne f4, LL4, k.at_ (k56.at0 upd_same) (by simpa using P3.ne f4), by decide, by decide, by decide⟩
  · exact q H' l5 kk hP' ⟨P4.ne f5, LL5, k.at_ (k6.at0 upd_same) (by simpa using P4.ne f5), by decide, by decide, by decide⟩
end
end T65
end
section
/-! W33: a rule, drawn. -/
namespace T65
open PySem PySem.Spec PyProof.Rows L2
theorem mem_nsV {v : V} {ns : List Nat} (h : v ∈ nsV ns) : ∃ m ∈ ns, v = .int (m : Nat) := by
  obtain ⟨m, hm, rfl⟩ := List.mem_map.mp h
  exact ⟨m, hm, rfl⟩
theorem strs_of {ds : List PyData} (h : ∀ d ∈ ds, ∃ l, l ∈ Lts ∧ d = .str l) : ∃ ls : List Str, ds = ls.map .str ∧ ∀ l ∈ ls, l ∈ Lts := by
  induction ds with
  | nil => exact ⟨[], rfl, fun _ z => by simp at z⟩
  | cons d r ih =>
    obtain ⟨l, hl, rfl⟩ := h d (List.mem_cons_self ..)
    obtain ⟨ls, rfl, h2⟩ := ih fun e he => h e (List.mem_cons_of_mem _ he)
    exact ⟨l :: ls, rfl, fun x hx => by
      rcases List.mem_cons.mp hx with rfl | hx
      · exact hl
      · exact h2 x hx⟩
section
variable {P : Program} {w : World} {K : PySem.W.Frag} {mg : Str → Option Value} {base : Heap} {C S f : Addr} {fd : FuncData}
theorem ok_law_drawn_rule {k : Nat} (g : G65 K mg C S) (F : Fn K "_law_drawn_rule" s_law_drawn_rule f fd) (gF : mg "_law_drawn_rule" = some (.ref f))
    (c_law_below : Cal P w K mg base CX0 2 "_law_below" p_law_below spBelow) (c_law_pick : Cal P w K mg base CX0 3 "_law_pick" p_law_pick (spPick K)) (c_law_drawn_rule : Cal P w K mg base CX0 (3 + k) "_law_drawn_rule" p_law_drawn_rule (spDrawn k)) :
    Cal P w K mg base CX0 (3 + k + 1) "_law_drawn_rule" p_law_drawn_rule (spDrawn (k + 1)) := by
  refine cal_of F gF sc_law_drawn_rule (fun vs H Q E h => by obtain ⟨p, c, l, rfl, _⟩ := h; rfl) (fun cdv A outer s H vs Q E hr h => ⟨_,
      (pss_cons (ps_set (i := 3) sc_law_drawn_rule.nd rfl (by first | exact Or.inl rfl | exact Or.inr rfl) (pe_ifExp (pt_cmpR op_gt (pv 2) pe_int (nomark _)) (pe_cal c_law_below hr pass0 (pa_cons (pv 0) (pa_cons pe_int pa_nil))) (pe_cal c_law_below hr pass0 (pa_cons (pv 0) (pa_cons pe_int pa_nil)))))
      (pss_cons (ps_if (pt_cmpR op_lt (pv 3) pe_int (nomark _))
        (pss_one (ps_ret (pe_tup (pa_cons pe_str (pa_cons (pe_callTy call_tuple_of rfl g.tuple rfl (pa_cons (pe_lc rfl sc_law_drawn_rule.nd (pi_range1 rfl g.range (pa_cons (pe_cal c_law_pick hr pass0 (pa_cons (pv 0) (pa_cons (pe_lst (pa_cons pe_int (pa_cons pe_int (pa_cons pe_int (pa_cons pe_int (pa_cons pe_int pa_nil)))))) pa_nil))) pa_nil)) (own := [("_law_place", 5)]) (blkOk_by (by kernel_rfl)) (fun _ _ _ _ _ => (pg_name (i := 5) sc_law_drawn_rule.nd rfl (by first | exact Or.inl rfl | exact Or.inr rfl))) (fun _ _ _ _ _ => pts_nil) (fun _ _ _ _ _ => (pe_cal c_law_pick hr pass0 (pa_cons (pv 0) (pa_cons (pv 1) pa_nil))))) pa_nil)) pa_nil)))))
        pss_nil)
      (pss_cons (ps_if (pt_cmpR op_eq (pv 3) pe_int (nomark _))
        (pss_one (ps_ret (pe_tup (pa_cons pe_str (pa_cons (pe_cal c_law_drawn_rule hr pass0 (pa_cons (pv 0) (pa_cons (pv 1) (pa_cons (pe_op op_sub (pv 2) pe_int) pa_nil)))) pa_nil)))))
        pss_nil)
      (pss_cons (ps_set (i := 4) sc_law_drawn_rule.nd rfl (by first | exact Or.inl rfl | exact Or.inr rfl) (pe_callTy call_tuple_of rfl g.tuple rfl (pa_cons (pe_lc rfl sc_law_drawn_rule.nd (pi_range1 rfl g.range (pa_cons (pe_cal c_law_pick hr pass0 (pa_cons (pv 0) (pa_cons (pe_lst (pa_cons pe_int (pa_cons pe_int (pa_cons pe_int (pa_cons pe_int (pa_cons pe_int pa_nil)))))) pa_nil))) pa_nil)) (own := [("_law_place", 5)]) (blkOk_by (by kernel_rfl)) (fun _ _ _ _ _ => (pg_name (i := 5) sc_law_drawn_rule.nd rfl (by first | exact Or.inl rfl | exact Or.inr rfl))) (fun _ _ _ _ _ => pts_nil) (fun _ _ _ _ _ => (pe_cal c_law_drawn_rule hr pass0 (pa_cons (pv 0) (pa_cons (pv 1) (pa_cons (pe_op op_sub (pv 2) pe_int) pa_nil)))))) pa_nil)))
      (pss_one (ps_ret (pe_tup (pa_cons (pe_ix (r := rIxL K) ix_list (pe_lst (pa_cons pe_str (pa_cons pe_str pa_nil))) (pe_op op_fdiv (pv 3) pe_int) (fun _ _ => rfl)) (pa_cons (pv 4) pa_nil))))))))), ?_⟩) (fun _ _ _ _ _ _ us hl => match us, hl with | [_, _, _], _ => rfl)
  obtain ⟨p, c, l, rfl, hP, hL, hk0, hk4, q⟩ := h
  refine seq_Z fun Z hZ => ?_
  have rest : ∀ (n : Nat) (H2 : Hp), Kp [p] H H2 → PotOk H2 p c → (n < 4 ∨ (0 < k ∧ n < 9)) → Z [some (.ref p), some (.ref l), some (.int ((k + 1 : Nat))), some (.int n), none, none] H2 := by
    intro n H2 k2 P2 hn
    rw [hZ]
    have L2' := hL.kp k2
    have cnt : ∀ (v : V), v ∈ nsV [0, 1, 1, 2, 3] → ∃ m : Nat, m ≤ 3 ∧ v = .int (m : Nat) := fun v hv => by
      obtain ⟨m, hm, rfl⟩ := mem_nsV hv
      refine ⟨m, ?_, rfl⟩
      revert m
      decide
    refine ⟨_, rfl, _, _, rfl, rfl, _, rfl, ite2 (fun h1 => ?_) (fun h1 => ?_)⟩
    · refine ⟨_, rfl, (by show 5 ≤ sizeLine; decide), fun q0 hq0 => ⟨p, c, q0, nsV [0, 1, 1, 2, 3], rfl, P2.new hq0 _, P2.ne hq0, .inl upd_same, by simp [nsV], by decide, fun H3 v k3 P3 hv => ?_⟩⟩
      obtain ⟨m, hm, rfl⟩ := cnt v hv
      have L3 := (L2'.kp ((Kp.refl [p] H2).new hq0 (.lst (nsV [0, 1, 1, 2, 3])))).kp k3
      have k03 := (k2.trans ((Kp.refl [p] H2).new hq0 (.lst (nsV [0, 1, 1, 2, 3])))).trans k3
      refine ⟨_, rfl, by omega, by omega, fun D hD => ?_⟩
      refine lc_rng (p := p) (c := c) (fun d => ∃ x, x ∈ Lts ∧ d = .str x) (m : Int).toNat hD P3 (by rw [sizeLine_eq]; omega) (fun i H4 Kc k4 P4 hK => ?_) (fun H4 us ds k4 P4 hD4 hds hlen hgood => ?_)
      · obtain ⟨lp, ls, e1, e2, e3, e4⟩ := L3.kp k4
        refine ⟨rfl, _, rfl, _, rfl, p, c, l, ls.map V.str, rfl, P4, lp, .inl e1, by simpa using e2, by rw [List.length_map]; omega, fun H5 v k5 P5 hv => ?_⟩
        obtain ⟨x, hx, rfl⟩ := List.mem_map.mp hv
        exact hK H5 _ (.str x) k5 P5 (.str x) ⟨x, e4 x hx, rfl⟩
      · obtain ⟨ls, rfl, hls⟩ := strs_of hgood
        refine ⟨D, us, rfl, .inl ⟨SqL.of hD4, fun t ht => ⟨(by show 2 ≤ sizeLine; decide), fun t2 ht2 => ?_⟩⟩⟩
        have k5 := (k03.trans k4).new ht (.tup us)
        have tt := Tu.new (o := .tup us) ht
        have ne : t ≠ t2 := ne_of_none upd_same ht2
        refine q _ _ (.tuple [.str "word", tupS ls]) (k5.new ht2 _) ((P4.new ht _).new ht2 _) (TD.tup upd_same (.cons (.str _) (TDs.one (TD.tup (by rw [upd_ne ne, upd_same]) ((hds.tu tt).tu (Tu.new ht2)))))) (.inl ⟨ls, ?_, hls, rfl⟩)
        rw [List.length_map] at hlen
        omega
    · have h1' : 4 ≤ n := by
        simp at h1
        omega
      have hk1 : 0 < k := by omega
      have hn9 : n < 9 := by omega
      have ek : ((k + 1 : Nat) : Int) - 1 = (k : Nat) := by omega
      refine ⟨_, rfl, rfl, _, rfl, ite2 (fun h2 => ?_) (fun h2 => ?_)⟩
      · refine ⟨_, rfl, _, rfl, _, rfl, _, _, rfl, rfl, p, c, l, congrArg (fun z => [V.ref p, .ref l, .int z]) ek, P2, L2', hk1, by omega, fun H3 v d k3 P3 t3 r3 => ?_⟩
        refine ⟨(by show 2 ≤ sizeLine; decide), fun t ht => ?_⟩
        exact q _ _ (.tuple [.str "again", d]) ((k2.trans k3).new ht _) (P3.new ht _) (TD.tup upd_same (.cons (.str _) (TDs.one (t3.tu (Tu.new ht))))) (.inr (.inl ⟨d, r3, rfl⟩))
      · have h2' : n ≠ 4 := fun e => h2 (by subst e; rfl)
        refine ⟨_, rfl, (by show 5 ≤ sizeLine; decide), fun q0 hq0 => ⟨p, c, q0, nsV [0, 1, 2, 2, 3], rfl, P2.new hq0 _, P2.ne hq0, .inl upd_same, by simp [nsV], by decide, fun H3 v k3 P3 hv => ?_⟩⟩
        have cnt2 : ∃ m : Nat, m ≤ 3 ∧ v = .int (m : Nat) := by
          obtain ⟨m, hm, rfl⟩ := mem_nsV hv
          refine ⟨m, ?_, rfl⟩
          clear hv
          revert m
          decide
        obtain ⟨m, hm, rfl⟩ := cnt2
        have L3 := (L2'.kp ((Kp.refl [p] H2).new hq0 (.lst (nsV [0, 1, 2, 2, 3])))).kp k3
        have k03 := (k2.trans ((Kp.refl [p] H2).new hq0 (.lst (nsV [0, 1, 2, 2, 3])))).trans k3
        refine ⟨_, rfl, by omega, by omega, fun D hD => ?_⟩
        refine lc_rng (p := p) (c := c) (RK k) (m : Int).toNat hD P3 (by rw [sizeLine_eq]; omega) (fun i H4 Kc k4 P4 hK => ?_) (fun H4 us ds k4 P4 hD4 hds hlen hgood => ?_)
        · exact ⟨rfl, _, rfl, _, rfl, _, rfl, _, _, rfl, rfl, p, c, l, congrArg (fun z => [V.ref p, .ref l, .int z]) ek, P4, L3.kp k4, hk1, by omega, fun H5 v d k5 P5 t5 r5 => hK H5 v d k5 P5 t5 r5⟩
        · refine ⟨D, us, rfl, .inl ⟨SqL.of hD4, fun t ht => ?_⟩⟩
          have k5 := (k03.trans k4).new ht (.tup us)
          have tt := Tu.new (o := .tup us) ht
          refine ⟨(by show 2 ≤ sizeLine; decide), fun t1 ht1 => ⟨_, rfl, _, _, rfl, rfl, ⟨by decide, by decide⟩, ?_⟩⟩
          have n7 : (n : Int) / 7 = 0 ∨ (n : Int) / 7 = 1 := by omega
          have k6 := k5.new ht1 (.lst [.str "sequence", .str "either"])
          have P6 := (P4.new ht (.tup us)).new ht1 (.lst [.str "sequence", .str "either"])
          have ne : t ≠ t1 := ne_of_none upd_same ht1
          have fin : ∀ (kd : Str), (kd = "sequence" ∨ kd = "either") → atI [V.str "sequence", .str "either"] ((n : Int) / 7) = some (.str kd) → ∃ p xs i v, V.ref t1 = V.ref p ∧ V.int ((n : Int) / 7) = V.int i ∧ SqL K (upd (upd H4 t (.tup us)) t1 (.lst [.str "sequence", .str "either"])) p xs ∧ atI xs i = some v ∧
              (fun x H1 => (∃ x2, [some (V.ref p), some (.ref l), some (.int ((k + 1 : Nat))), some (.int n), some (.ref t), none][4]? = some (some x2) ∧ 2 ≤ sizeLine ∧ ∀ (t2 : Addr), H1 t2 = none → Q (.ref t2) (upd H1 t2 (.tup [x, x2])))) v (upd (upd H4 t (.tup us)) t1 (.lst [.str "sequence", .str "either"])) := by
            intro kd hkd hat
            refine ⟨t1, _, _, .str kd, rfl, rfl, SqL.of upd_same, hat, _, rfl, by decide, fun t2 ht2 => ?_⟩
            have ne2 : t ≠ t2 := ne_of_none (show upd (upd H4 t (.tup us)) t1 (.lst [.str "sequence", .str "either"]) t = some (.tup us) by rw [upd_ne ne, upd_same]) ht2
            refine q _ _ (.tuple [.str kd, .tuple ds]) (k6.new ht2 _) (P6.new ht2 _) (TD.tup upd_same (.cons (.str _) (TDs.one (TD.tup (by rw [upd_ne ne2, upd_ne ne, upd_same]) (((hds.tu tt).tu (Tu.new ht1)).tu (Tu.new ht2)))))) (.inr (.inr ⟨kd, ds, hkd, by omega, hgood, rfl⟩))
          rcases n7 with e | e
          · exact fin "sequence" (.inl rfl) (by rw [e]; rfl)
          · exact fin "either" (.inr rfl) (by rw [e]; rfl)
  refine ⟨_, rfl, _, _, rfl, rfl, _, rfl, ite2 (fun h1 => ?_) (fun h1 => ?_)⟩
  · have h1' : 0 < k := by
      have := of_decide_eq_true h1
      omega
    exact ⟨_, rfl, p, c, 9, rfl, hP, by decide, by decide, fun H2 n k2 P2 hn => rest n H2 k2 P2 (.inr ⟨h1', hn⟩)⟩
  · exact ⟨_, rfl, p, c, 4, rfl, hP, by decide, by decide, fun H2 n k2 P2 hn => rest n H2 k2 P2 (.inl hn)⟩
theorem drawn_all (g : G65 K mg C S) (F : Fn K "_law_drawn_rule" s_law_drawn_rule f fd) (gF : mg "_law_drawn_rule" = some (.ref f))
    (c_law_below : Cal P w K mg base CX0 2 "_law_below" p_law_below spBelow) (c_law_pick : Cal P w K mg base CX0 3 "_law_pick" p_law_pick (spPick K)) : ∀ k : Nat, Cal P w K mg base CX0 (3 + k) "_law_drawn_rule" p_law_drawn_rule (spDrawn k)
  | 0 => ⟨f, fd, ⟨fun vs H Q E h => (by obtain ⟨p, c, l, _, _, _, z, _⟩ := h; exact absurd z (by decide)), fun _ _ _ _ _ _ _ _ _ _ _ _ _ h => (by obtain ⟨p, c, l, _, _, _, z, _⟩ := h; exact absurd z (by decide))⟩, gF, F.kp, F.bindsN (fun _ _ _ _ _ _ us hl => match us, hl with | [_, _, _], _ => rfl)⟩
  | k + 1 => ok_law_drawn_rule g F gF c_law_below c_law_pick (drawn_all g F gF c_law_below c_law_pick k)
end
end T65
end
section
/-! W34: a rule's parts and sizes; a rule that fits. -/
namespace T65
open PySem PySem.Spec PyProof.Rows L2
def kidsR : PyData → List PyData
  | .tuple [.str kd, e] => if kd = "word" then [] else if kd = "again" then [e] else kidsD e
  | _ => []
def lenR : PyData → Nat
  | .tuple [.str kd, e] => if kd = "word" then (kidsD e).length else 0
  | _ => 0
theorem cntR_eq {k : Nat} {d : PyData} (h : RK (k + 1) d) : cntR (k + 1) d = 1 + ((kidsR d).map (cntR k)).sum := by
  rcases h with ⟨ls, h1, h2, rfl⟩ | ⟨e, h1, rfl⟩ | ⟨kd, ds, h1, h2, h3, rfl⟩
  · rfl
  · show 1 + cntR k e = 1 + (cntR k e + 0)
    omega
  · rcases h1 with rfl | rfl <;> rfl
theorem letR_eq {k : Nat} {d : PyData} (h : RK (k + 1) d) : letR (k + 1) d = lenR d + ((kidsR d).map (letR k)).sum := by
  rcases h with ⟨ls, h1, h2, rfl⟩ | ⟨e, h1, rfl⟩ | ⟨kd, ds, h1, h2, h3, rfl⟩
  · rfl
  · show letR k e = 0 + (letR k e + 0)
    omega
  · rcases h1 with rfl | rfl
    · show ((kidsD (.tuple ds)).map (letR k)).sum = 0 + ((kidsD (.tuple ds)).map (letR k)).sum
      omega
    · show ((kidsD (.tuple ds)).map (letR k)).sum = 0 + ((kidsD (.tuple ds)).map (letR k)).sum
      omega
theorem kids_ok {k : Nat} {d : PyData} (h : RK (k + 1) d) : (∀ e ∈ kidsR d, RK k e) ∧ (kidsR d).length ≤ 3 := by
  rcases h with ⟨ls, h1, h2, rfl⟩ | ⟨e, h1, rfl⟩ | ⟨kd, ds, h1, h2, h3, rfl⟩
  · exact ⟨(fun x z => absurd z (by show x ∉ []; simp)), (by show 0 ≤ 3; decide)⟩
  · exact ⟨fun x hx => by rw [List.mem_singleton.mp hx]; exact h1, (by show 1 ≤ 3; decide)⟩
  · have e : kidsR (.tuple [.str kd, .tuple ds]) = ds := by rcases h1 with rfl | rfl <;> rfl
    rw [e]
    exact ⟨h3, h2⟩
def spPartsOf (k : Nat) : Sp := fun vs H Q _ => ∃ (v : V) (d : PyData), vs = [v] ∧ TD H v d ∧ RK (k + 1) d ∧ ∀ (H' : Hp) (l : Addr) (us : List V), Kp [] H H' → H' l = some (.lst us) → TDs H' us (kidsR d) → Q (.ref l) H'
def spSizes (k : Nat) : Sp := fun vs H Q _ => ∃ (v : V) (d : PyData), vs = [v] ∧ TD H v d ∧ RK k d ∧ ∀ (H' : Hp) (l : Addr) (dp : Int), Kp [] H H' → H' l = some (.lst [.int (cntR k d : Nat), .int dp, .int (letR k d : Nat)]) → Q (.ref l) H'
def spFit : Sp := fun vs H Q _ => ∃ (p c l : Addr), vs = [.ref p, .ref l] ∧ PotOk H p c ∧ LetA H l p ∧ ∀ (H' : Hp) (v : V) (d : PyData), Kp [p] H H' → PotOk H' p c → TD H' v d → RuleOk d → Q v H'
section
variable {P : Program} {w : World} {K : PySem.W.Frag} {mg : Str → Option Value} {base : Heap} {C S f : Addr} {fd : FuncData}
theorem ok_law_parts_of {k : Nat} (g : G65 K mg C S) (F : Fn K "_law_parts_of" s_law_parts_of f fd) (gF : mg "_law_parts_of" = some (.ref f)) : Cal P w K mg base CX0 1 "_law_parts_of" p_law_parts_of (spPartsOf k) := by
  refine cal_of F gF sc_law_parts_of (fun vs H Q E h => by obtain ⟨v, d, rfl, _⟩ := h; rfl) (fun cdv A outer s H vs Q E hr h => ⟨_,
      (pss_cons (ps_if (pt_cmpR op_in_seq (pe_ix (r := rIxT K) ix_tup (pv 0) pe_int (fun _ _ => rfl)) (pe_tup (pa_cons pe_str (pa_cons pe_str pa_nil))) (by with_unfolding_all rfl))
        (pss_one (ps_ret (pe_callTy call_list_of rfl g.list rfl (pa_cons (pe_ix (r := rIxT K) ix_tup (pv 0) pe_int (fun _ _ => rfl)) pa_nil))))
        pss_nil)
      (pss_one (ps_ret (pe_ifExp (pt_cmpR op_eq (pe_ix (r := rIxT K) ix_tup (pv 0) pe_int (fun _ _ => rfl)) pe_str (nomark _)) (pe_lst (pa_cons (pe_ix (r := rIxT K) ix_tup (pv 0) pe_int (fun _ _ => rfl)) pa_nil)) (pe_lst pa_nil))))), ?_⟩) (fun _ _ _ _ _ _ us hl => match us, hl with | [_], _ => rfl)
  obtain ⟨v, d, rfl, hd, hk, q⟩ := h
  rcases hk with ⟨ls, h1, h2, rfl⟩ | ⟨e, h1, rfl⟩ | ⟨kd, ds, h1, h2, h3, rfl⟩
  · obtain ⟨p, u, rfl, hp, hu⟩ := hd.pair
    refine ⟨_, rfl, p, _, 0, .str "word", rfl, rfl, SqT.of hp, rfl, (by show 2 ≤ sizeLine; decide), fun p1 hp1 => ⟨p1, (["sequence", "either"] : List Str).map V.str, rfl, .inr (SqT.of upd_same), rfl, rfl, ?_⟩⟩
    have eIn : inV (.str "word") ((["sequence", "either"] : List Str).map V.str) = (["sequence", "either"] : List Str).contains "word" := inV_strs _ _
    rw [eIn]
    have k1 := (Kp.refl [] H).new hp1 (.tup [.str "sequence", .str "either"])
    refine ⟨_, rfl, ite2 (fun z => absurd z (by decide)) (fun _ => ?_)⟩
    refine ⟨_, rfl, p, _, 0, .str "word", rfl, rfl, SqT.of (k1.at0 hp), rfl, rfl, _, rfl, ite2 (fun z => absurd z (by decide)) (fun _ => ?_)⟩
    exact ⟨Nat.zero_le _, fun l hl => q _ l [] (k1.new hl _) upd_same .nil⟩
  · obtain ⟨p, u, rfl, hp, hu⟩ := hd.pair
    refine ⟨_, rfl, p, _, 0, .str "again", rfl, rfl, SqT.of hp, rfl, (by show 2 ≤ sizeLine; decide), fun p1 hp1 => ⟨p1, (["sequence", "either"] : List Str).map V.str, rfl, .inr (SqT.of upd_same), rfl, rfl, ?_⟩⟩
    have eIn : inV (.str "again") ((["sequence", "either"] : List Str).map V.str) = (["sequence", "either"] : List Str).contains "again" := inV_strs _ _
    rw [eIn]
    have k1 := (Kp.refl [] H).new hp1 (.tup [.str "sequence", .str "either"])
    refine ⟨_, rfl, ite2 (fun z => absurd z (by decide)) (fun _ => ?_)⟩
    refine ⟨_, rfl, p, _, 0, .str "again", rfl, rfl, SqT.of (k1.at0 hp), rfl, rfl, _, rfl, ite2 (fun _ => ?_) (fun z => absurd (by rfl) z)⟩
    exact ⟨_, rfl, p, _, 1, u, rfl, rfl, SqT.of (k1.at0 hp), rfl, (by show 1 ≤ sizeLine; decide), fun l hl => q _ l [u] (k1.new hl _) upd_same (TDs.one ((hu.tu k1.tu).tu (Tu.new hl)))⟩
  · obtain ⟨p, u, rfl, hp, hu⟩ := hd.pair
    obtain ⟨p2, us, rfl, hp2, hus⟩ := hu.tupl
    have ek : kidsR (.tuple [.str kd, .tuple ds]) = ds := by rcases h1 with rfl | rfl <;> rfl
    rw [ek] at q
    have hc : (["sequence", "either"] : List Str).contains kd = true := by rcases h1 with rfl | rfl <;> decide
    refine ⟨_, rfl, p, _, 0, .str kd, rfl, rfl, SqT.of hp, rfl, (by show 2 ≤ sizeLine; decide), fun p1 hp1 => ⟨p1, (["sequence", "either"] : List Str).map V.str, rfl, .inr (SqT.of upd_same), rfl, rfl, ?_⟩⟩
    have eIn : inV (.str kd) ((["sequence", "either"] : List Str).map V.str) = (["sequence", "either"] : List Str).contains kd := inV_strs _ _
    rw [eIn, hc]
    have k1 := (Kp.refl [] H).new hp1 (.tup [.str "sequence", .str "either"])
    refine ⟨_, rfl, ite2 (fun _ => ?_) (fun z => absurd (by rfl) z)⟩
    exact ⟨_, rfl, p, _, 1, .ref p2, rfl, rfl, SqT.of (k1.at0 hp), rfl, p2, us, rfl, .inr (SqT.of (k1.at0 hp2)), fun l hl => q _ l us (k1.new hl _) upd_same ((hus.tu k1.tu).tu (Tu.new hl))⟩
theorem ok_law_sizes_of {k : Nat} (g : G65 K mg C S) (F : Fn K "_law_sizes_of" s_law_sizes_of f fd) (gF : mg "_law_sizes_of" = some (.ref f)) (c_law_parts_of : Cal P w K mg base CX0 1 "_law_parts_of" p_law_parts_of (spPartsOf k)) (c_law_sizes_of : Cal P w K mg base CX0 (2 + k) "_law_sizes_of" p_law_sizes_of (spSizes k)) :
    Cal P w K mg base CX0 (2 + k + 1) "_law_sizes_of" p_law_sizes_of (spSizes (k + 1)) := by
  refine cal_of F gF sc_law_sizes_of (fun vs H Q E h => by obtain ⟨v, d, rfl, _⟩ := h; rfl) (fun cdv A outer s H vs Q E hr h => ⟨_,
      (pss_cons (ps_set (i := 1) sc_law_sizes_of.nd rfl (by first | exact Or.inl rfl | exact Or.inr rfl) (pe_lst (pa_cons pe_int (pa_cons pe_int (pa_cons (pe_ifExp (pt_cmpR op_eq (pe_ix (r := rIxT K) ix_tup (pv 0) pe_int (fun _ _ => rfl)) pe_str (nomark _)) (pe_callB call_len rfl g.len rfl (pa_cons (pe_ix (r := rIxT K) ix_tup (pv 0) pe_int (fun _ _ => rfl)) pa_nil)) pe_int) pa_nil)))))
      (pss_cons (ps_for (passes_of rfl) rfl (pi_listK (K := K) rfl (pe_cal c_law_parts_of hr pass0 (pa_cons (pv 0) pa_nil))) (pg_name (i := 2) sc_law_sizes_of.nd rfl (by first | exact Or.inl rfl | exact Or.inr rfl))
        (pss_cons (ps_set (i := 3) sc_law_sizes_of.nd rfl (by first | exact Or.inl rfl | exact Or.inr rfl) (pe_cal c_law_sizes_of hr pass0 (pa_cons (pv 2) pa_nil)))
        (pss_one (ps_set (i := 1) sc_law_sizes_of.nd rfl (by first | exact Or.inl rfl | exact Or.inr rfl) (pe_lst (pa_cons (pe_op op_add (pe_ix (r := rIxL K) ix_list (pv 1) pe_int (fun _ _ => rfl)) (pe_ix (r := rIxL K) ix_list (pv 3) pe_int (fun _ _ => rfl))) (pa_cons (pe_callB (call_max2 rfl) rfl g.max rfl (pa_cons (pe_ix (r := rIxL K) ix_list (pv 1) pe_int (fun _ _ => rfl)) (pa_cons (pe_op op_add (pe_ix (r := rIxL K) ix_list (pv 3) pe_int (fun _ _ => rfl)) pe_int) pa_nil))) (pa_cons (pe_op op_add (pe_ix (r := rIxL K) ix_list (pv 1) pe_int (fun _ _ => rfl)) (pe_ix (r := rIxL K) ix_list (pv 3) pe_int (fun _ _ => rfl))) pa_nil))))))))
      (pss_one (ps_ret (pv 1))))), ?_⟩) (fun _ _ _ _ _ _ us hl => match us, hl with | [_], _ => rfl)
  obtain ⟨v, d, rfl, hd, hk, q⟩ := h
  rw [cntR_eq hk, letR_eq hk] at q
  obtain ⟨kok, klen⟩ := kids_ok hk
  have hkk := hk
  refine seq_Z fun Z hZ => ?_
  have rest : ∀ (H1 : Hp) (l : Addr), Kp [] H H1 → H1 l = some (.lst [.int 1, .int 1, .int (lenR d : Nat)]) → Z [some v, some (.ref l), none, none] H1 := by
    intro H1 l k1 hl
    rw [hZ]
    refine ⟨_, rfl, v, d, rfl, hd.tu k1.tu, hk, fun H2 pl us k2 hpl tus => ⟨pl, rfl, ⟨_, SqL.of hpl⟩, ?_⟩⟩
    have hlen := tus.len
    refine for_by us.length (fun i σ H3 => ∃ (l : Addr) (dp : Int) (e2 e3 : Option V), σ = [some v, some (.ref l), e2, e3] ∧ Kp [] H H3 ∧ H3 pl = some (.lst us) ∧ TDs H3 us (kidsR d) ∧ H3 l = some (.lst [.int ((1 + (((kidsR d).take i).map (cntR k)).sum : Nat)), .int dp, .int ((lenR d + (((kidsR d).take i).map (letR k)).sum : Nat))]))
      ⟨l, 1, none, none, rfl, k1.trans k2, hpl, tus, k2.at0 hl⟩ (fun i σ H3 hi hP => ?_) (fun σ H3 hP => ?_) (fun i x σ H3 H4 hi hP hy => ?_) (fun σ H3 hP => ?_)
    · obtain ⟨_, _, _, _, _, _, h5, _⟩ := hP
      exact ⟨_, us[i], SqL.of h5, List.getElem?_eq_getElem hi⟩
    · obtain ⟨_, _, _, _, _, _, h5, _⟩ := hP
      exact ⟨_, SqL.of h5, Nat.le_refl _⟩
    · obtain ⟨l, dp, e2, e3, rfl, k3, h5, h6, h7⟩ := hP
      obtain ⟨rfl, hx⟩ := hy
      obtain ⟨e, he, te⟩ := h6.at_ (hx _ (SqL.of h5))
      have em : e ∈ kidsR d := List.mem_of_getElem? he
      have sc : ∀ f : PyData → Nat, (((kidsR d).take (i + 1)).map f).sum = (((kidsR d).take i).map f).sum + f e := fun f => by
        rw [List.take_succ, he]
        simp
      refine ⟨_, rfl, x, e, rfl, te, kok e em, fun H5 lm dm k5 hlm => ?_⟩
      have h75 := k5.at0 h7
      refine ⟨_, rfl, l, _, 0, _, rfl, rfl, SqL.of h75, rfl, _, rfl, lm, _, 0, _, rfl, rfl, SqL.of hlm, rfl, _, _, rfl, rfl, ?_⟩
      refine ⟨_, rfl, l, _, 1, _, rfl, rfl, SqL.of h75, rfl, _, rfl, lm, _, 1, _, rfl, rfl, SqL.of hlm, rfl, _, _, rfl, rfl, _, _, rfl, ?_⟩
      refine ⟨_, rfl, l, _, 2, _, rfl, rfl, SqL.of h75, rfl, _, rfl, lm, _, 2, _, rfl, rfl, SqL.of hlm, rfl, _, _, rfl, rfl, (by show 3 ≤ sizeLine; decide), fun l2 hl2 => ?_⟩
      refine ⟨l2, (if dm + 1 > dp then dm + 1 else dp), some x, some (.ref lm), rfl, (k3.trans k5).new hl2 _, ?_, ((h6.tu k5.tu).tu (Tu.new hl2)), ?_⟩
      · rw [upd_ne (ne_of_none (k5.at0 h5) hl2)]
        exact k5.at0 h5
      · rw [upd_same, sc, sc]
        have a1 : ((1 + (((kidsR d).take i).map (cntR k)).sum : Nat) : Int) + (cntR k e : Nat) = ((1 + ((((kidsR d).take i).map (cntR k)).sum + cntR k e) : Nat) : Int) := by omega
        have a2 : ((lenR d + (((kidsR d).take i).map (letR k)).sum : Nat) : Int) + (letR k e : Nat) = ((lenR d + ((((kidsR d).take i).map (letR k)).sum + letR k e) : Nat) : Int) := by omega
        rw [← a1, ← a2]
    · obtain ⟨l, dp, e2, e3, rfl, k3, h5, h6, h7⟩ := hP
      rw [hlen, List.take_length] at h7
      exact ⟨_, rfl, q H3 l dp k3 h7⟩
  rcases hkk with ⟨ls, h1, h2, rfl⟩ | ⟨e, h1, rfl⟩ | ⟨kd, ds, h1, h2, h3, rfl⟩
  · obtain ⟨p, u, rfl, hp, hu⟩ := hd.pair
    obtain ⟨p2, us, rfl, hp2, hus⟩ := hu.tupl
    have hlen := hus.len
    refine ⟨_, rfl, p, _, 0, .str "word", rfl, rfl, SqT.of hp, rfl, rfl, _, rfl, ite2 (fun _ => ?_) (fun z => absurd (by rfl) z)⟩
    refine ⟨_, rfl, p, _, 1, .ref p2, rfl, rfl, SqT.of hp, rfl, _, _, rfl, .inr ⟨_, SqT.of hp2, rfl⟩, (by show 3 ≤ sizeLine; decide), fun l hl => ?_⟩
    refine rest _ l ((Kp.refl [] H).new hl _) ?_
    rw [upd_same, hlen]
    rfl
  · obtain ⟨p, u, rfl, hp, hu⟩ := hd.pair
    refine ⟨_, rfl, p, _, 0, .str "again", rfl, rfl, SqT.of hp, rfl, rfl, _, rfl, ite2 (fun z => absurd z (by decide)) (fun _ => ?_)⟩
    exact ⟨(by show 3 ≤ sizeLine; decide), fun l hl => rest _ l ((Kp.refl [] H).new hl _) upd_same⟩
  · obtain ⟨p, u, rfl, hp, hu⟩ := hd.pair
    have kw : kd ≠ "word" := by rcases h1 with rfl | rfl <;> decide
    have el : lenR (.tuple [.str kd, .tuple ds]) = 0 := by rcases h1 with rfl | rfl <;> rfl
    rw [el] at rest
    refine ⟨_, rfl, p, _, 0, .str kd, rfl, rfl, SqT.of hp, rfl, rfl, _, rfl, ite2 (fun z => absurd (by simpa using z) kw) (fun _ => ?_)⟩
    exact ⟨(by show 3 ≤ sizeLine; decide), fun l hl => rest _ l ((Kp.refl [] H).new hl _) upd_same⟩
theorem sizes_all (g : G65 K mg C S) (F : Fn K "_law_sizes_of" s_law_sizes_of f fd) (gF : mg "_law_sizes_of" = some (.ref f)) (c_law_parts_of : ∀ k, Cal P w K mg base CX0 1 "_law_parts_of" p_law_parts_of (spPartsOf k)) : ∀ k : Nat, Cal P w K mg base CX0 (2 + k) "_law_sizes_of" p_law_sizes_of (spSizes k)
  | 0 => ⟨f, fd, ⟨fun vs H Q E h => (by obtain ⟨v, d, _, _, z, _⟩ := h; exact z.elim), fun _ _ _ _ _ _ _ _ _ _ _ _ _ h => (by obtain ⟨v, d, _, _, z, _⟩ := h; exact z.elim)⟩, gF, F.kp, F.bindsN (fun _ _ _ _ _ _ us hl => match us, hl with | [_], _ => rfl)⟩
  | k + 1 => ok_law_sizes_of g F gF (c_law_parts_of k) (sizes_all g F gF c_law_parts_of k)
theorem ok_law_fit_rule (g : G65 K mg C S) (F : Fn K "_law_fit_rule" s_law_fit_rule f fd) (gF : mg "_law_fit_rule" = some (.ref f)) (c_law_drawn_rule : Cal P w K mg base CX0 7 "_law_drawn_rule" p_law_drawn_rule (spDrawn 4)) (c_law_sizes_of : Cal P w K mg base CX0 6 "_law_sizes_of" p_law_sizes_of (spSizes 4)) :
    Cal P w K mg base CX0 8 "_law_fit_rule" p_law_fit_rule spFit := by
  refine cal_of F gF sc_law_fit_rule (fun vs H Q E h => by obtain ⟨p, c, l, rfl, _⟩ := h; rfl) (fun cdv A outer s H vs Q E hr h => ⟨_,
      (pss_cons (ps_for (passes_of rfl) rfl (pi_range1 rfl g.range (pa_cons pe_int pa_nil)) (pg_name (i := 2) sc_law_fit_rule.nd rfl (by first | exact Or.inl rfl | exact Or.inr rfl))
        (pss_cons (ps_set (i := 3) sc_law_fit_rule.nd rfl (by first | exact Or.inl rfl | exact Or.inr rfl) (pe_cal c_law_drawn_rule hr pass0 (pa_cons (pv 0) (pa_cons (pv 1) (pa_cons pe_int pa_nil)))))
        (pss_cons (ps_set (i := 4) sc_law_fit_rule.nd rfl (by first | exact Or.inl rfl | exact Or.inr rfl) (pe_cal c_law_sizes_of hr pass0 (pa_cons (pv 3) pa_nil)))
        (pss_one (ps_if (PW.pt (pw_and (pt_cmpR op_le (pe_ix (r := rIxL K) ix_list (pv 4) pe_int (fun _ _ => rfl)) pe_int (nomark _)) (pw_and (pt_cmpR op_le (pe_ix (r := rIxL K) ix_list (pv 4) pe_int (fun _ _ => rfl)) pe_int (nomark _)) (pw_and1 (pt_cmpR op_le (pe_ix (r := rIxL K) ix_list (pv 4) pe_int (fun _ _ => rfl)) pe_int (nomark _))))))
          (pss_one (ps_ret (pv 3)))
          pss_nil)))))
      (pss_one (ps_ret (pe_tup (pa_cons pe_str (pa_cons (pe_tup (pa_cons (pe_ix (r := rIxL K) ix_list (pv 1) pe_int (fun _ _ => rfl)) pa_nil)) pa_nil)))))), ?_⟩) (fun _ _ _ _ _ _ us hl => match us, hl with | [_, _], _ => rfl)
  obtain ⟨p, c, l, rfl, hP, hL, q⟩ := h
  refine ⟨20, rfl, by decide, by decide, ?_⟩
  refine for_by 20 (fun i σ H1 => ∃ (e2 e3 e4 : Option V), σ = [some (.ref p), some (.ref l), e2, e3, e4] ∧ Kp [p] H H1 ∧ PotOk H1 p c)
    ⟨none, none, none, rfl, Kp.refl _ _, hP⟩ (fun i σ H6 hi _ => hi) (fun σ H6 _ => Nat.le_refl _) (fun t v σ H6 H7 hi hP hy => ?_) (fun σ H6 hP => ?_)
  · obtain ⟨e2, e3, e4, rfl, k6, P6⟩ := hP
    obtain ⟨rfl, rfl⟩ := hy
    refine ⟨_, rfl, _, rfl, p, c, l, rfl, P6, hL.kp k6, by decide, by decide, fun H8 v d k8 P8 t8 r8 => ?_⟩
    refine ⟨_, rfl, v, d, rfl, t8, r8, fun H9 lz dp k9 hz => ?_⟩
    have k09 := (k6.trans k8).trans k9.any
    have P9 := P8.kp k9
    refine ⟨_, rfl, lz, _, 0, _, rfl, rfl, SqL.of hz, rfl, _, _, rfl, rfl, _, rfl, ite2 (fun h1 => ?_) (fun h1 => ⟨_, _, _, rfl, k09, P9⟩)⟩
    refine ⟨_, rfl, lz, _, 1, _, rfl, rfl, SqL.of hz, rfl, _, _, rfl, rfl, _, rfl, ite2 (fun h2 => ?_) (fun h2 => ⟨_, _, _, rfl, k09, P9⟩)⟩
    refine ⟨_, rfl, lz, _, 2, _, rfl, rfl, SqL.of hz, rfl, _, _, rfl, rfl, _, rfl, ite2 (fun h3 => ?_) (fun h3 => ⟨_, _, _, rfl, k09, P9⟩)⟩
    refine ⟨_, rfl, q H9 v d k09 P9 (t8.tu k9.tu) ⟨r8, ?_, ?_⟩⟩
    · have := of_decide_eq_true h1
      omega
    · have := of_decide_eq_true h3
      omega
  · obtain ⟨e2, e3, e4, rfl, k6, P6⟩ := hP
    obtain ⟨lp, ls, g1, g2, g3, g4⟩ := hL.kp k6
    cases ls with
    | nil => exact absurd rfl g2
    | cons x r =>
      refine ⟨_, rfl, l, _, 0, .str x, rfl, rfl, SqL.of g1, atI_nat (j := 0) rfl, (by show 1 ≤ sizeLine; decide), fun t ht => ⟨(by show 2 ≤ sizeLine; decide), fun t2 ht2 => ?_⟩⟩
      have ne : t ≠ t2 := ne_of_none upd_same ht2
      exact q _ _ (.tuple [.str "word", tupS [x]]) ((k6.new ht _).new ht2 _) ((P6.new ht _).new ht2 _) (TD.tup upd_same (.cons (.str _) (TDs.one (TD.tup (xs := [.str x]) (by rw [upd_ne ne, upd_same]) (TDs.one (.str x)))))) ⟨.inl ⟨[x], (by show 1 ≤ 3; decide), fun y hy => by rw [List.mem_singleton.mp hy]; exact g4 x (List.mem_cons_self ..), rfl⟩, by show 1 ≤ 20; decide, by show 1 ≤ 8; decide⟩
end
end T65
end
section
/-! W35: the pot; a text, bent; two things, compared by repr. -/
namespace T65
open PySem PySem.Spec PyProof.Rows L2
/-! ### compared by repr -/
def CalG (P : Program) (w : World) (K : PySem.W.Frag) (mg : Str → Option Value) (base : Heap) (CX : CXT) (k : Nat) (x : Str) (ps : List Str) (sp : Sp) : Prop :=
  ∃ f fd, FnOkG P w K mg base CX k f fd ps sp ∧ mg x = some (.ref f) ∧ PySem.W.keepIn K (.ref f) = true ∧ Binds K fd ps []
theorem calG_of {P : Program} {w : World} {K : PySem.W.Frag} {mg : Str → Option Value} {base : Heap} {x : Str} {st : Stmt} {f : Addr} {fd : FuncData} {CX : CXT} {N ps : List Str} {k : Nat} {sp : Sp}
    (F : FunD K x x (defArgs st) (defBody st) (defScope st) [] [] f fd) (g : mg x = some (.ref f)) (S : FnScope N ps (defScope st)) (len : ∀ vs H Q E, sp vs H Q E → vs.length = ps.length)
    (hbody : ∀ (cdv : Value) (A : Around) (outer : List Env) (s : Shared) (H : Hp) (vs : List V) (Q : VK) (E : XK), A.guards = some [] → Room k (A.deeper (envOfC x (defScope st) s.heap.objs.size f cdv)) → sp vs H Q E →
      ∃ t, PSs (cxOf CX P w K mg base N x (defScope st) f cdv A outer s H E) (defBody st) t ∧ t { nx := fun _ H' => Q .non H', rt := Q } (start N vs) H)
    (hb : ∀ (kV doc pm : Value) (an : Option Addr) (cdv ct : Value) (us : List Value), us.length = ps.length → bindArgs (PySem.W.fnOf x x (defArgs st) (defBody st) (defScope st) .none kV doc pm an cdv ct) ⟨us, []⟩ = pure (ps.zip us)) :
    CalG P w K mg base CX (k + 1) x ps sp := ⟨f, fd, okG F S len hbody, g, F.kp, F.bindsN hb⟩
section
variable {X : Cx} {CX : CXT} {k j : Nat} {x : Str} {ps : List Str} {sp : Sp} {E : XK} {p pos : Pos} {e : Expr} {es : List Expr} {t : TA}
theorem pe_calG (c : CalG X.prog X.w X.K X.mg X.base CX j x ps sp) (hgd : X.A.guards = some []) (hr : Room k X.A) (hx : Passes CX X E) (ha : PA X (e :: es) t) (hj : j ≤ k := by first | decide | exact Nat.le_refl _ | omega) (hg : Gl X x := by rfl)
    (hdb : (x == ("__debug__" : Str)) = false := by decide) (he : starEach (e :: es) X.env = (false, eval e X.env) :: starEach es X.env := by rfl) (hpl : (backTo pos (starEach es X.env)).any (·.1) = false := by rfl) :
    PE X (.Call (.Name x p) (e :: es) [] pos) (tCall sp [] E t) := by
  obtain ⟨f, fd, h1, h2, h3, h4⟩ := c
  exact pe_callG h1 hgd (hr.mono hj) hg h2 h3 h4 hx ha hdb he hpl
end
/-- may be shown -/
structure Shw (d : PyData) : Prop where
  ob : (∃ ds, d = .tuple ds) ∨ ∃ ps, d = .dict ps
  sh : d.showable = true
  dp : d.depth ≤ 60
  ln : d.shown.length ≤ sizeLine
theorem DD.ref {H : Hp} {v : V} {d : PyData} (h : DD H v d) (s : Shw d) : ∃ a, v = .ref a := by
  rcases h with h | ⟨a, _, _, rfl, _⟩
  · rcases s.ob with ⟨ds, rfl⟩ | ⟨ps, rfl⟩
    · cases h with
      | tup h1 h2 => exact ⟨_, rfl⟩
    · cases h
  · exact ⟨a, rfl⟩
def spSame : Sp := fun vs H Q _ => ∃ (v u : V) (d : PyData), vs = [v, u] ∧ DD H v d ∧ DD H u d ∧ Shw d ∧ Q (.bl true) H
/-! ### the pot -/
def spPotOf (K : PySem.W.Frag) : Sp := fun vs H Q _ => ∃ (a : Addr) (ns : List Int), vs = [.ref a] ∧ SqL K H a (ns.map V.int) ∧ ∀ (H' : Hp) (p c : Addr), Kp [] H H' → H p = none → PotOk H' p c → Q (.ref p) H'
theorem cut_to (xs : List V) (n : Nat) : cutV xs none (some (n : Int)) = xs.take n := by
  unfold cutV
  rw [HT.sIx_none, HT.sIx_nat, Nat.sub_zero, List.drop_zero]
  rcases Nat.le_total n xs.length with h | h
  · rw [Nat.min_eq_left h]
  · rw [Nat.min_eq_right h, List.take_length, List.take_of_length_le h]
/-! ### bent texts -/
def menu : List Str := [" ", "  ", "\n", "(", ")", ",", "=", "a", "0", "7", "@", "A", "-", "word", "again(", "either()", "places", "road", "\t", ".", "_", ":", ""]
def Bent : Nat → Str → Str → Prop
  | 0, x, y => y = x
  | k + 1, x, y => ∃ (z : Str) (i j : Nat) (m : Str), Bent k x z ∧ i ≤ z.length ∧ m ∈ menu ∧ TL.tl y = (TL.tl z).take i ++ TL.tl m ++ (TL.tl z).drop (i + j)
def spBent : Sp := fun vs H Q _ => ∃ (p c : Addr) (x : Str), vs = [.ref p, .str x] ∧ PotOk H p c ∧ x.length < 2 ^ 16 ∧ ∀ (H' : Hp) (k : Nat) (y : Str), Kp [p] H H' → PotOk H' p c → k ≤ 3 → Bent k x y → Q (.str y) H'
theorem menu_len {m : Str} (h : m ∈ menu) : m.length ≤ 8 := by
  revert m
  decide +kernel
theorem Bent.len : ∀ {k : Nat} {x y : Str}, Bent k x y → y.length ≤ x.length + 8 * k
  | 0, x, y, h => by
    rw [show y = x from h]
    omega
  | k + 1, x, y, h => by
    obtain ⟨z, i, j, m, hz, hi, hm, e⟩ := h
    have h1 := hz.len
    have h2 := menu_len hm
    have e2 := congrArg List.length e
    rw [List.length_append, List.length_append, List.length_take, List.length_drop, ← TL.len_tl, ← TL.len_tl, ← TL.len_tl] at e2
    omega
theorem cutS_to (z : Str) (n : Nat) : TL.tl (cutS z none (some (n : Int))) = (TL.tl z).take n := by
  unfold cutS
  rw [HT.sIx_none, HT.sIx_nat]
  show ((TL.tl z).drop 0).take (min n z.length - 0) = _
  rw [Nat.sub_zero, List.drop_zero, TL.len_tl]
  rcases Nat.le_total n (TL.tl z).length with h | h
  · rw [Nat.min_eq_left h]
  · rw [Nat.min_eq_right h, List.take_length, List.take_of_length_le h]
theorem cutS_from (z : Str) (n : Nat) : TL.tl (cutS z (some (n : Int)) none) = (TL.tl z).drop n := by
  unfold cutS
  rw [HT.sIx_none, HT.sIx_nat]
  show ((TL.tl z).drop (min n z.length)).take (z.length - min n z.length) = _
  rw [TL.len_tl]
  rcases Nat.le_total n (TL.tl z).length with h | h
  · rw [Nat.min_eq_left h, List.take_of_length_le (by rw [List.length_drop]; exact Nat.le_refl _)]
  · rw [Nat.min_eq_right h, List.drop_of_length_le h, List.drop_of_length_le (Nat.le_refl _), List.take_nil]
section
variable {P : Program} {w : World} {K : PySem.W.Frag} {mg : Str → Option Value} {base : Heap} {C S f : Addr} {fd : FuncData}
theorem ok_law_same (g : G65 K mg C S) (F : Fn K "_law_same" s_law_same f fd) (gF : mg "_law_same" = some (.ref f)) : CalG P w K mg base CX0 1 "_law_same" p_law_same spSame := by
  refine calG_of F gF sc_law_same (fun vs H Q E h => by obtain ⟨v, u, d, rfl, _⟩ := h; rfl) (fun cdv A outer s H vs Q E hgd hr h => ⟨_,
      (pss_one (ps_ret (pe_cmpR op_eq (pe_callB (call_reprD hgd (hu64 hr)) rfl g.repr rfl (pa_cons (pv 0) pa_nil)) (pe_callB (call_reprD hgd (hu64 hr)) rfl g.repr rfl (pa_cons (pv 1) pa_nil)) (nomark _)))), ?_⟩) (fun _ _ _ _ _ _ us hl => match us, hl with | [_, _], _ => rfl)
  obtain ⟨v, u, d, rfl, h1, h2, hs, q⟩ := h
  exact ⟨_, rfl, v, d, rfl, h1, h1.ref hs, hs.sh, hs.dp, hs.ln, _, rfl, u, d, rfl, h2, h2.ref hs, hs.sh, hs.dp, hs.ln, rfl, (by rw [show decide (V.str d.shown = V.str d.shown) = true from decide_eq_true rfl]; exact q)⟩
theorem ok_law_changed_text (g : G65 K mg C S) (F : Fn K "_law_changed_text" s_law_changed_text f fd) (gF : mg "_law_changed_text" = some (.ref f)) (c_law_below : Cal P w K mg base CX0 2 "_law_below" p_law_below spBelow) (c_law_pick : Cal P w K mg base CX0 3 "_law_pick" p_law_pick (spPick K)) :
    Cal P w K mg base CX0 4 "_law_changed_text" p_law_changed_text spBent := by
  refine cal_of F gF sc_law_changed_text (fun vs H Q E h => by obtain ⟨p, c, x, rfl, _⟩ := h; rfl) (fun cdv A outer s H vs Q E hr h => ⟨_,
      (pss_cons (ps_set (i := 2) sc_law_changed_text.nd rfl (by first | exact Or.inl rfl | exact Or.inr rfl) (pe_lst (pa_cons pe_str (pa_cons pe_str (pa_cons pe_str (pa_cons pe_str (pa_cons pe_str (pa_cons pe_str (pa_cons pe_str (pa_cons pe_str (pa_cons pe_str (pa_cons pe_str (pa_cons pe_str (pa_cons pe_str (pa_cons pe_str (pa_cons pe_str (pa_cons pe_str pa_nil)))))))))))))))))
      (pss_cons (ps_set (i := 2) sc_law_changed_text.nd rfl (by first | exact Or.inl rfl | exact Or.inr rfl) (pe_op op_cat (pv 2) (pe_lst (pa_cons pe_str (pa_cons pe_str (pa_cons pe_str (pa_cons pe_str (pa_cons pe_str (pa_cons pe_str (pa_cons pe_str pa_nil))))))))))
      (pss_cons (ps_for (passes_of rfl) rfl (pi_range1 rfl g.range (pa_cons (pe_cal c_law_below hr pass0 (pa_cons (pv 0) (pa_cons pe_int pa_nil))) pa_nil)) (pg_name (i := 3) sc_law_changed_text.nd rfl (by first | exact Or.inl rfl | exact Or.inr rfl))
        (pss_cons (ps_set (i := 4) sc_law_changed_text.nd rfl (by first | exact Or.inl rfl | exact Or.inr rfl) (pe_cal c_law_below hr pass0 (pa_cons (pv 0) (pa_cons (pe_op op_add (pe_callB call_len rfl g.len rfl (pa_cons (pv 1) pa_nil)) pe_int) pa_nil))))
        (pss_one (ps_set (i := 1) sc_law_changed_text.nd rfl (by first | exact Or.inl rfl | exact Or.inr rfl) (pe_op op_add_str (pe_op op_add_str (pe_slice sl_str (pv 1) po_none (po_some (pv 4))) (pe_cal c_law_pick hr pass0 (pa_cons (pv 0) (pa_cons (pe_op op_cat (pv 2) (pe_lst (pa_cons pe_str pa_nil))) pa_nil)))) (pe_slice sl_str (pv 1) (po_some (pe_op op_add (pv 4) (pe_cal c_law_pick hr pass0 (pa_cons (pv 0) (pa_cons (pe_lst (pa_cons pe_int (pa_cons pe_int (pa_cons pe_int (pa_cons pe_int (pa_cons pe_int pa_nil)))))) pa_nil))))) po_none))))))
      (pss_one (ps_ret (pv 1)))))), ?_⟩) (fun _ _ _ _ _ _ us hl => match us, hl with | [_, _], _ => rfl)
  obtain ⟨p, c, x, rfl, hP, hx, q⟩ := h
  refine ⟨(by show 15 ≤ sizeLine; decide), fun l1 f1 => ⟨_, rfl, (by show 7 ≤ sizeLine; decide), fun l2 f2 => ?_⟩⟩
  have n12 : l1 ≠ l2 := ne_of_none upd_same f2
  refine ⟨l1, l2, _, _, rfl, rfl, by rw [upd_ne n12, upd_same], upd_same, (by show 22 ≤ sizeLine; decide), fun l3 f3 => ?_⟩
  have k3 := (((Kp.refl [] H).new f1 (.lst ((menu.take 15).map V.str))).new f2 (.lst (((menu.drop 15).take 7).map V.str))).new f3 (.lst ((menu.take 22).map V.str))
  have P3 := hP.kp k3
  have h3 : l3 ≠ p := ((hP.kp (((Kp.refl [] H).new f1 (.lst ((menu.take 15).map V.str))).new f2 (.lst (((menu.drop 15).take 7).map V.str))))).ne f3
  obtain ⟨H3, e3⟩ : ∃ Z : Hp, Z = upd (upd (upd H l1 (.lst ((menu.take 15).map V.str))) l2 (.lst (((menu.drop 15).take 7).map V.str))) l3 (.lst ((menu.take 22).map V.str)) := ⟨_, rfl⟩
  refine gen_H e3.symm ?_
  have hl3 : H3 l3 = some (.lst ((menu.take 22).map V.str)) := by rw [e3, upd_same]
  rw [← e3] at k3 P3
  refine ⟨_, rfl, p, c, 4, rfl, P3, by decide, by decide, fun H4 n k4 P4 hn => ⟨_, rfl, by omega, by omega, ?_⟩⟩
  refine for_by (n : Int).toNat (fun i σ H5 => ∃ (y : Str) (e3 e4 : Option V), σ = [some (.ref p), some (.str y), some (.ref l3), e3, e4] ∧ Kp [p] H H5 ∧ PotOk H5 p c ∧ H5 l3 = some (.lst ((menu.take 22).map V.str)) ∧ Bent i x y)
    ⟨x, none, none, rfl, k3.any.trans k4, P4, k4.at_ hl3 (by simpa using h3), rfl⟩ (fun i σ H6 hi _ => hi) (fun σ H6 _ => Nat.le_refl _) (fun t v σ H6 H7 hi hP hy => ?_) (fun σ H6 hP => ?_)
  · obtain ⟨y, e3, e4, rfl, k5, P5, h5, by5⟩ := hP
    obtain ⟨rfl, rfl⟩ := hy
    have hyl : y.length ≤ x.length + 8 * t := by5.len
    have ht : t < 4 := by omega
    have hyz : y.length ≤ sizeLine := le17 (by omega)
    refine ⟨_, rfl, _, rfl, _, _, rfl, ⟨hyz, rfl⟩, _, _, rfl, rfl, p, c, y.length + 1, rfl, P5, by omega, by omega, fun H8 i k8 P8 hi8 => ?_⟩
    have h8 := k8.at_ h5 (by simpa using h3)
    refine ⟨_, rfl, _, rfl, _, rfl, y, rfl, hyz, _, rfl, _, rfl, (by show 1 ≤ sizeLine; decide), fun l4 f4 => ?_⟩
    have n34 : l3 ≠ l4 := ne_of_none h8 f4
    refine ⟨l3, l4, _, _, rfl, rfl, by rw [upd_ne n34]; exact h8, upd_same, (by show 23 ≤ sizeLine; decide), fun l5 f5 => ?_⟩
    have k9 := ((Kp.refl [] H8).new f4 (.lst (([""] : List Str).map V.str))).new f5 (.lst (menu.map V.str))
    refine ⟨p, c, l5, menu.map V.str, rfl, P8.kp k9, (P8.new f4 (.lst (([""] : List Str).map V.str))).ne f5, .inl upd_same, by simp [menu], (by show 23 < 2 ^ 29; decide), fun H10 v k10 P10 hv => ?_⟩
    obtain ⟨m, hm, rfl⟩ := List.mem_map.mp hv
    have lm := menu_len hm
    have l1' : (cutS y none (some (i : Int))).length ≤ y.length := by
      rw [TL.len_tl, cutS_to, TL.len_tl, List.length_take]
      omega
    refine ⟨_, _, rfl, rfl, le17 (by omega), _, rfl, _, rfl, _, rfl, (by show 5 ≤ sizeLine; decide), fun l6 f6 => ?_⟩
    refine ⟨p, c, l6, nsV [0, 0, 1, 2, 5], rfl, P10.new f6 _, P10.ne f6, .inl upd_same, by simp [nsV], by decide, fun H12 v k12 P12 hv => ?_⟩
    obtain ⟨j, hj, rfl⟩ := mem_nsV hv
    have l2' : (cutS y (some ((i : Int) + (j : Int))) none).length ≤ y.length := by
      rw [show (i : Int) + (j : Int) = ((i + j : Nat) : Int) from rfl, TL.len_tl, cutS_from, TL.len_tl, List.length_drop]
      omega
    refine ⟨_, _, rfl, rfl, _, rfl, y, rfl, hyz, _, _, rfl, rfl, le17 (by rw [Str.length_append]; omega), ?_⟩
    have k11 := ((k5.trans k8).trans (k9.any.trans k10)).trans (((Kp.refl [p] H10).new f6 (.lst (nsV [0, 0, 1, 2, 5]))).trans k12)
    refine ⟨_, _, _, rfl, k11, P12, ?_, ?_⟩
    · exact k12.at_ (((Kp.refl [] H10).new f6 (.lst (nsV [0, 0, 1, 2, 5]))).at0 (k10.at_ (k9.at0 h8) (by simpa using h3))) (by simpa using h3)
    · refine ⟨y, i, j, m, by5, by omega, hm, ?_⟩
      rw [TL.tl_append, TL.tl_append, cutS_to, show (i : Int) + (j : Int) = ((i + j : Nat) : Int) from rfl, cutS_from]
  · obtain ⟨y, e3, e4, rfl, k5, P5, h5, by5⟩ := hP
    exact ⟨_, rfl, q H6 _ y k5 P5 (by omega) by5⟩
theorem ok_law_pot_of (g : G65 K mg C S) (F : Fn K "_law_pot_of" s_law_pot_of f fd) (gF : mg "_law_pot_of" = some (.ref f)) : Cal P w K mg base CX0 1 "_law_pot_of" p_law_pot_of (spPotOf K) := by
  refine cal_of F gF sc_law_pot_of (fun vs H Q E h => by obtain ⟨a, ns, rfl, _⟩ := h; rfl) (fun cdv A outer s H vs Q E hr h => ⟨_,
      (pss_cons (ps_setLc rfl sc_law_pot_of.nd (i := 1) rfl rfl (sw_true rfl rfl rfl rfl) (pi_listK (K := K) rfl (pe_slice (r := rSlL K) sl_list (pv 0) po_none (po_some pe_int))) (own := [("_law_cell", 3)]) (blkOk_by (by kernel_rfl)) (fun _ _ _ _ _ => (pg_name (i := 3) sc_law_pot_of.nd rfl (by first | exact Or.inl rfl | exact Or.inr rfl))) (fun _ _ _ _ _ => pts_nil) (fun _ _ _ _ _ => (pe_callB call_abs rfl g.abs rfl (pa_cons (pv 3) pa_nil))))
      (pss_cons (ps_for (passes_of rfl) rfl (pi_enum rfl g.enumerate (pa_cons (pe_slice (r := rSlL K) sl_list (pv 0) (po_some pe_int) (po_some pe_int)) pa_nil)) (pg_tup rfl (pgs_cons (pg_name (i := 2) sc_law_pot_of.nd rfl (by first | exact Or.inl rfl | exact Or.inr rfl)) (pgs_cons (pg_name (i := 3) sc_law_pot_of.nd rfl (by first | exact Or.inl rfl | exact Or.inr rfl)) pgs_nil)))
        (pss_one (ps_asg (pe_op op_add (pe_ix (r := rIxL K) ix_list (pv 1) (pe_op op_mod (pv 2) pe_int) (fun _ _ => rfl)) (pe_callB call_abs rfl g.abs rfl (pa_cons (pv 3) pa_nil))) (pg_sub (pv 1) (pe_op op_mod (pv 2) pe_int) set_list))))
      (pss_one (ps_ret (pe_lst (pa_cons (pv 1) (pa_cons pe_int (pa_cons pe_int (pa_cons pe_int pa_nil))))))))), ?_⟩) (fun _ _ _ _ _ _ us hl => match us, hl with | [_], _ => rfl)
  obtain ⟨a, ns, rfl, hA, q⟩ := h
  refine ⟨_, rfl, _, rfl, a, _, rfl, hA, fun sl fsl => ⟨sl, rfl, ⟨_, SqL.of upd_same⟩, fun D hD => ?_⟩⟩
  have e17 : cutV (ns.map V.int) none (some 17) = (ns.take 17).map V.int := (cut_to _ 17).trans (List.map_take ..).symm
  have k1 := (Kp.refl [] H).new fsl (.lst ((ns.take 17).map V.int))
  obtain ⟨H1, e1⟩ : ∃ Z : Hp, Z = upd H sl (.lst ((ns.take 17).map V.int)) := ⟨_, rfl⟩
  rw [e17, ← e1] at hD ⊢
  rw [← e1] at k1
  have hsl : H1 sl = some (.lst ((ns.take 17).map V.int)) := by rw [e1, upd_same]
  refine lc_by (ns.take 17).length (fun i H2 => Kp [] H1 H2 ∧ ∃ cs : List Int, cs.length = i ∧ H2 D = some (.lst (cs.map V.int))) ⟨(Kp.refl [] H1).new hD _, [], rfl, upd_same⟩ (fun i H2 hi hP => ?_) (fun H2 hP => ?_) (fun i v H2 H3 hi hP hy => ?_) (fun H2 hP => ?_)
  · exact ⟨_, .int (ns.take 17)[i], SqL.of (hP.1.at0 hsl), by rw [List.getElem?_map, List.getElem?_eq_getElem hi]; rfl⟩
  · exact ⟨_, SqL.of (hP.1.at0 hsl), by rw [List.length_map]; exact Nat.le_refl _⟩
  · obtain ⟨k2, cs, h1, h2⟩ := hP
    obtain ⟨rfl, hx⟩ := hy
    have hv := hx _ (SqL.of (k2.at0 hsl))
    rw [List.getElem?_map, List.getElem?_eq_getElem hi] at hv
    cases hv
    have l17 : (ns.take 17).length ≤ 17 := by rw [List.length_take]; omega
    exact ⟨rfl, _, rfl, _, rfl, _, h2, by rw [List.length_map, sizeLine_eq]; omega, k2.upN hD _, cs ++ [_], by rw [List.length_append, h1]; rfl, by rw [upd_same, List.map_append]; rfl⟩
  · obtain ⟨k2, cs, h1, h2⟩ := hP
    have k02 := k1.trans k2
    have hDn : H D = none := k1.fresh hD
    refine ⟨_, rfl, _, rfl, _, rfl, a, _, rfl, k02.seq0 hA, fun s2 f2 => ⟨s2, _, rfl, SqL.of upd_same, ?_⟩⟩
    have hDs : D ≠ s2 := ne_of_none h2 f2
    obtain ⟨xs, exs, hxs⟩ : ∃ xs : List Int, cutV (ns.map V.int) (some 17) (some 60) = xs.map V.int ∧ (xs ≠ [] → 17 ≤ ns.length) := by
      refine ⟨(ns.drop (min 17 ns.length)).take (min 60 ns.length - min 17 ns.length), ?_, fun z => ?_⟩
      · unfold cutV
        rw [show (some (17 : Int)) = some ((17 : Nat) : Int) from rfl, show (some (60 : Int)) = some ((60 : Nat) : Int) from rfl, HT.sIx_nat, HT.sIx_nat, List.length_map, ← List.map_drop, ← List.map_take]
      · apply Nat.le_of_not_lt
        intro zz
        apply z
        rw [List.drop_of_length_le (by omega), List.take_nil]
    rw [exs]
    have k3 := k02.new f2 (.lst (xs.map V.int))
    have hs2 : upd H2 s2 (.lst (xs.map V.int)) s2 = some (.lst (xs.map V.int)) := upd_same
    refine for_by xs.length (fun i σ H4 => ∃ (cs : List Int) (e2 e3 : Option V), σ = [some (.ref a), some (.ref D), e2, e3] ∧ Kp [] H H4 ∧ H4 s2 = some (.lst (xs.map V.int)) ∧ H4 D = some (.lst (cs.map V.int)) ∧ cs.length = (ns.take 17).length)
      ⟨cs, none, none, rfl, k3, hs2, by rw [upd_ne hDs]; exact h2, h1⟩ (fun i σ H4 hi hP => ?_) (fun σ H4 hP => ?_) (fun i v σ H4 H5 hi hP hy => ?_) (fun σ H4 hP => ?_)
    · obtain ⟨_, _, _, _, _, h5, _⟩ := hP
      exact ⟨_, .int xs[i], SqL.of h5, by rw [List.getElem?_map, List.getElem?_eq_getElem hi]; rfl⟩
    · obtain ⟨_, _, _, _, _, h5, _⟩ := hP
      exact ⟨_, SqL.of h5, by rw [List.length_map]; exact Nat.le_refl _⟩
    · obtain ⟨cs, e2, e3, rfl, k4, h5, h6, h7⟩ := hP
      obtain ⟨T, x, rfl, hT, rfl, hx⟩ := hy
      have hv := hx _ (SqL.of h5)
      rw [List.getElem?_map, List.getElem?_eq_getElem hi] at hv
      cases hv
      have l17 : cs.length = 17 := by
        rw [h7, List.length_take, Nat.min_eq_left]
        exact hxs (fun z => by rw [z] at hi; exact absurd hi (Nat.not_lt_zero _))
      have hDT : D ≠ T := ne_of_none h6 hT
      have hsT : s2 ≠ T := ne_of_none h5 hT
      have h6' : upd H4 T (.tup [.int (i : Nat), .int xs[i]]) D = some (.lst (cs.map V.int)) := by rw [upd_ne hDT]; exact h6
      have em : ((i : Nat) : Int) % 17 = ((i % 17 : Nat) : Int) := rfl
      have hm : i % 17 < cs.length := by rw [l17]; exact Nat.mod_lt _ (by decide)
      have hsD : s2 ≠ D := fun z => hDs z.symm
      refine ⟨T, _, rfl, SqT.of upd_same, rfl, _, _, rfl, _, _, rfl, rfl, ?_⟩
      refine ⟨_, rfl, _, rfl, _, _, rfl, rfl, (by show (0 : Int) < 17; decide), D, _, _, .int cs[i % 17], rfl, rfl, SqL.of h6', atI_nat (j := i % 17) (by rw [List.getElem?_map, List.getElem?_eq_getElem hm]; rfl), _, rfl, _, rfl, _, _, rfl, rfl, ?_⟩
      refine ⟨_, rfl, _, rfl, _, _, rfl, rfl, (by show (0 : Int) < 17; decide), D, _, _, i % 17, rfl, rfl, h6', ?_, ?_⟩
      · unfold ixN
        rw [if_pos (by omega), if_pos (by rw [List.length_map]; omega)]
        rfl
      · refine ⟨cs.set (i % 17) (cs[i % 17] + (if xs[i] < 0 then -xs[i] else xs[i])), some (.int i), some (.int xs[i]), rfl, (k4.new hT _).upN hDn _, ?_, ?_, ?_⟩
        · rw [upd_ne hsD, upd_ne hsT]
          exact h5
        · rw [upd_same, List.map_set]
        · rw [List.length_set]
          exact h7
    · obtain ⟨cs, e2, e3, rfl, k4, h5, h6, h7⟩ := hP
      exact ⟨_, rfl, (by show 4 ≤ sizeLine; decide), fun p fp => q _ p D (k4.new fp _) (k4.fresh fp) ⟨cs, 0, 0, 0, ne_of_none h6 fp, upd_same, by rw [upd_ne (ne_of_none h6 fp)]; exact h6⟩⟩
end
end T65
end
section
/-! W36: the drawn things: what stands through the draws. -/
namespace T65
open PySem PySem.Spec PyProof.Rows L2
theorem ThV.kR {R : List Addr} {H H' : Hp} {v : V} {t : Th} (h : ThV H v t) (k : Kp R H H') : ThV H' v t := by
  cases t with
  | book nds =>
    obtain ⟨a, kvs, rfl, h1, h2⟩ := h
    exact ⟨a, kvs, rfl, k.td.2 _ _ h1, h2.tu k.tu⟩
  | rule d => exact TD.tu k.tu h
  | word d => exact TD.tu k.tu h
  | route d => exact TD.tu k.tu h
  | pos d => exact TD.tu k.tu h
  | net d e => exact TD.tu k.tu h
/-- a told thing: its way, the thing, its text -/
def ThA (H : Hp) (a : Addr) (t : Th) : Prop := ∃ v : V, H a = some (.tup [.str t.way, v, .str t.text]) ∧ ThV H v t
theorem ThA.kR {R : List Addr} {H H' : Hp} {a : Addr} {t : Th} (h : ThA H a t) (k : Kp R H H') : ThA H' a t := by
  obtain ⟨v, h1, h2⟩ := h
  exact ⟨v, k.tu _ _ h1, h2.kR k⟩
def spThings : Sp := fun vs H Q _ => ∃ (p c : Addr), vs = [.ref p] ∧ PotOk H p c ∧ ∀ (H' : Hp) (l : Addr) (as : List Addr), Kp [p] H H' → PotOk H' p c → l ≠ p → H' l = some (.lst (as.map V.ref)) → (∀ a ∈ as, ∃ t : Th, t.ok ∧ ThA H' a t) → Q (.ref l) H'
/-! ### what stands through the draws -/
theorem PotOk.upd {H : Hp} {p c a : Addr} {o : HO} (h : PotOk H p c) (h1 : a ≠ p) (h2 : a ≠ c) : PotOk (upd H a o) p c := by
  obtain ⟨cs, x, y, z, q1, q2, q3⟩ := h
  exact ⟨cs, x, y, z, q1, by rw [upd_ne (Ne.symm h1)]; exact q2, by rw [upd_ne (Ne.symm h2)]; exact q3⟩
theorem PotOk.neC {H : Hp} {p c a : Addr} (h : PotOk H p c) (ha : H a = none) : a ≠ c := fun e => by
  obtain ⟨_, _, _, _, _, _, h3⟩ := h
  rw [← e, ha] at h3
  cases h3
structure Bn (p : Addr) (H : Hp) (tds : List (V × PyData)) (lss : List (Addr × List V)) (tss : List (List V × List PyData)) (dks : List (Addr × List (Key × V) × List (Str × PyData))) : Prop where
  td : ∀ q ∈ tds, TD H q.1 q.2
  ls : ∀ q ∈ lss, q.1 ≠ p ∧ H q.1 = some (.lst q.2)
  ts : ∀ q ∈ tss, TDs H q.1 q.2
  dk : ∀ q ∈ dks, H q.1 = some (.dK q.2.1) ∧ KD H q.2.1 q.2.2
section
variable {p : Addr} {H H' : Hp} {tds : List (V × PyData)} {lss : List (Addr × List V)} {tss : List (List V × List PyData)} {dks : List (Addr × List (Key × V) × List (Str × PyData))}
theorem Bn.kp (b : Bn p H tds lss tss dks) (k : Kp [p] H H') : Bn p H' tds lss tss dks :=
  ⟨fun q hq => (b.td q hq).tu k.tu, fun q hq => ⟨(b.ls q hq).1, k.at_ (b.ls q hq).2 (by simpa using (b.ls q hq).1)⟩, fun q hq => (b.ts q hq).tu k.tu, fun q hq => ⟨k.td.2 _ _ (b.dk q hq).1, (b.dk q hq).2.tu k.tu⟩⟩
theorem Bn.aT (b : Bn p H tds lss tss dks) {v : V} {d : PyData} (h : TD H v d) : Bn p H ((v, d) :: tds) lss tss dks :=
  ⟨fun q hq => by
    rcases List.mem_cons.mp hq with rfl | hq
    · exact h
    · exact b.td q hq, b.ls, b.ts, b.dk⟩
theorem Bn.aL (b : Bn p H tds lss tss dks) {a : Addr} {xs : List V} (h1 : a ≠ p) (h : H a = some (.lst xs)) : Bn p H tds ((a, xs) :: lss) tss dks :=
  ⟨b.td, fun q hq => by
    rcases List.mem_cons.mp hq with rfl | hq
    · exact ⟨h1, h⟩
    · exact b.ls q hq, b.ts, b.dk⟩
theorem Bn.aS (b : Bn p H tds lss tss dks) {xs : List V} {ds : List PyData} (h : TDs H xs ds) : Bn p H tds lss ((xs, ds) :: tss) dks :=
  ⟨b.td, b.ls, fun q hq => by
    rcases List.mem_cons.mp hq with rfl | hq
    · exact h
    · exact b.ts q hq, b.dk⟩
theorem Bn.aD (b : Bn p H tds lss tss dks) {a : Addr} {kvs : List (Key × V)} {nds : List (Str × PyData)} (h1 : H a = some (.dK kvs)) (h : KD H kvs nds) : Bn p H tds lss tss ((a, kvs, nds) :: dks) :=
  ⟨b.td, b.ls, b.ts, fun q hq => by
    rcases List.mem_cons.mp hq with rfl | hq
    · exact ⟨h1, h⟩
    · exact b.dk q hq⟩
theorem Bn.t0 {v : V} {d : PyData} (b : Bn p H ((v, d) :: tds) lss tss dks) : TD H v d := b.td _ (List.mem_cons_self ..)
end
theorem int_of {v : V} {ns : List Nat} {b : Nat} (h : v ∈ nsV ns) (hb : ∀ n ∈ ns, n ≤ b) : ∃ m : Nat, m ≤ b ∧ m ∈ ns ∧ v = .int (m : Nat) := by
  obtain ⟨m, hm, rfl⟩ := mem_nsV h
  exact ⟨m, hb m hm, hm, rfl⟩
theorem ints_of {ds : List PyData} {b : Nat} (h : ∀ d ∈ ds, ∃ n : Nat, n ≤ b ∧ d = .int n) : ∃ ns : List Nat, ds = ns.map (fun n => PyData.int (n : Nat)) ∧ ∀ n ∈ ns, n ≤ b := by
  induction ds with
  | nil => exact ⟨[], rfl, fun _ z => by simp at z⟩
  | cons d r ih =>
    obtain ⟨n, hn, rfl⟩ := h d (List.mem_cons_self ..)
    obtain ⟨ns, rfl, h2⟩ := ih fun e he => h e (List.mem_cons_of_mem _ he)
    exact ⟨n :: ns, rfl, fun x hx => by
      rcases List.mem_cons.mp hx with rfl | hx
      · exact hn
      · exact h2 x hx⟩
/-- [f(x) for x in l], l a list of data -/
theorem lc_tdl {K : PySem.W.Frag} {H1 : Hp} {D p : Addr} {g : TG} {te : TE} {vs : List Nat} {σ : L2.St} {Qd : Hp → Prop} {us : List V} {ds : List PyData} (f : PyData → Str) (hD : H1 D = none) (hp : H1 p = some (.lst us)) (hds : TDs H1 us ds) (hl : ds.length < sizeLine)
    (hs : ∀ (d : PyData) (v : V) (H : Hp) (Kc : VK), d ∈ ds → TD H v d → Kp [] H1 H → (∀ H', Kp [] H H' → Kc (.str (f d)) H') → g v (wipe σ vs) H fun σ2 H2 => wipe σ2 vs = wipe σ vs ∧ te σ2 H2 Kc)
    (hd : ∀ H, Kp [] H1 H → H D = some (.lst ((ds.map f).map V.str)) → Qd H)
    (mono : ∀ (v : V) (H : Hp) (Q Q' : L2.St → Hp → Prop), (∀ a b, Q a b → Q' a b) → g v (wipe σ vs) H Q → g v (wipe σ vs) H Q') :
    ∃ W : Nat → Nat → Hp → Prop, (∃ m, W 0 m (upd H1 D (.lst []))) ∧ ∀ i m H, W i m H →
      ((Itl K p).stop i H ∧ Qd H) ∨ ((Itl K p).go i H ∧ ∃ Nx : Hp → Prop, (∀ H', Nx H' → ∃ m', m' < m ∧ W (i + 1) m' H') ∧ ∀ v H', (Itl K p).yld i H v H' → g v (wipe σ vs) H' fun σ2 H2 => wipe σ2 vs = wipe σ vs ∧ tYes σ2 H2 fun b H3 =>
        if b = true then te σ2 H3 fun y H4 => ∃ acc, H4 D = some (.lst acc) ∧ acc.length < sizeLine ∧ Nx (upd H4 D (.lst (acc ++ [y]))) else Nx H3) := by
  have hlen := hds.len
  refine lc_by ds.length (fun i H => Kp [] H1 H ∧ H D = some (.lst (((ds.take i).map f).map V.str))) ⟨(Kp.refl [] H1).new hD _, upd_same⟩ (fun i H hi hP => ?_) (fun H hP => ?_) (fun i v H H' hi hP hy => ?_) (fun H hP => ?_)
  · have hi' : i < us.length := by omega
    exact ⟨_, us[i], SqL.of (hP.1.at0 hp), List.getElem?_eq_getElem hi'⟩
  · exact ⟨_, SqL.of (hP.1.at0 hp), by omega⟩
  · obtain ⟨hk, hd1⟩ := hP
    obtain ⟨rfl, hx⟩ := hy
    have hx' := hx _ (SqL.of (hk.at0 hp))
    obtain ⟨d, hd2, td⟩ := hds.at_ hx'
    have hm : d ∈ ds := List.mem_of_getElem? hd2
    have z1 : (((ds.take i).map f).map V.str).length < sizeLine := by
      rw [List.length_map, List.length_map, List.length_take]
      omega
    have z2 : ((ds.take i).map f).map V.str ++ [V.str (f d)] = ((ds.take (i + 1)).map f).map V.str := by
      rw [List.take_succ, hd2]
      simp
    exact hs d v H' _ hm (td.tu hk.tu) hk fun H2 k2 => ⟨_, k2.at0 hd1, z1, (hk.trans k2).upN hD _, by rw [upd_same, z2]⟩
  · refine hd H hP.1 ?_
    rw [hP.2, List.take_of_length_le (Nat.le_refl _)]
/-- str(x), a text or an int -/
theorem call_str_any {X : Cx} : CallR X (.type "str") (fun xs H Q => (∃ i, xs = [.int i] ∧ i.natAbs.log2 < 1920 ∧ Q (.str (toString i)) H) ∨ ∃ a, xs = [.str a] ∧ Q (.str a) H) := by
  intro pins s σ H xs us Q I r h
  rcases h with h | h
  · exact call_str_int pins s σ H xs us Q I r h
  · exact SkE.call_str_str pins s σ H xs us Q I r h
theorem TDs.int2 {H : Hp} : ∀ {ns : List Nat} {us : List V}, TDs H us (ns.map fun n => PyData.int (n : Nat)) → us = nsV ns
  | [], _, h => by cases h; rfl
  | x :: r, _, h => by
    cases h with
    | cons a b =>
      cases a
      rw [TDs.int2 b]
      rfl
theorem canLay_ints : ∀ ns : List Nat, PyData.canLayAll0 (ns.map fun n => PyData.int (n : Nat)) = true
  | [] => rfl
  | n :: r => by
    show (true && PyData.canLayAll0 (r.map fun n => PyData.int (n : Nat))) = true
    rw [canLay_ints r]
    rfl
theorem depth_ints : ∀ ns : List Nat, PyData.depthAll (ns.map fun n => PyData.int (n : Nat)) ≤ 1
  | [] => by decide
  | n :: r => by
    have := depth_ints r
    show max _ (PyData.depthAll (r.map fun n => PyData.int (n : Nat))) ≤ 1
    exact Nat.max_le.mpr ⟨Nat.zero_le _, this⟩
theorem shaped_ints (ns : List Nat) : SeqAt.shaped (tupI ns) = true := by
  unfold SeqAt.shaped
  rw [Bool.and_eq_true]
  refine ⟨canLay_ints ns, decide_eq_true ?_⟩
  have := depth_ints ns
  show PyData.depthAll (ns.map fun n => PyData.int (n : Nat)) + 1 ≤ 64
  omega
theorem eqv_nil (ns : List Nat) : PyData.eqv (tupI ns) (.tuple []) = decide (ns = []) := by
  cases ns with
  | nil => rfl
  | cons a r => rfl
theorem road_join (l : Str) (a b c : Nat) : Txt.join " " ["road", l, numS a, numS b, numS c] = roadX (.tuple [.str l, .int a, .int b, .int c]) := by
  rw [TL.join_eq]
  refine TL.ext_tl ?_
  show TL.tl ("road" ++ " " ++ (l ++ " " ++ (numS a ++ " " ++ (numS b ++ " " ++ numS c)))) = TL.tl ("road " ++ l ++ " " ++ numS a ++ " " ++ numS b ++ " " ++ numS c)
  simp only [TL.tl_append, List.append_assoc]
  rfl
theorem step_join (a b : Nat) (e : PyData) : Txt.join " " [numS a, numS b, nmX e] = stepX (.tuple [.int a, .int b, e]) := by
  rw [TL.join_eq, stepX_eq]
  refine TL.ext_tl ?_
  show TL.tl (numS a ++ " " ++ (numS b ++ " " ++ nmX e)) = _
  simp only [TL.tl_append, List.append_assoc]
/-- a fresh list grows; all else stands -/
theorem grow {p c a : Addr} {Hb H : Hp} {us ws : List V} {ds es : List PyData} (hb : Hb a = none) (Pb : PotOk Hb p c) (k : Kp [p] Hb H) (P : PotOk H p c) (ha : H a = some (.lst us)) (hds : TDs H us ds) (hes : TDs H ws es) :
    Kp [p] Hb (upd H a (.lst (us ++ ws))) ∧ PotOk (upd H a (.lst (us ++ ws))) p c ∧ upd H a (.lst (us ++ ws)) a = some (.lst (us ++ ws)) ∧ TDs (upd H a (.lst (us ++ ws))) (us ++ ws) (ds ++ es) := by
  have tu : Tu H (upd H a (.lst (us ++ ws))) := fun b xs e => by rw [upd_ne (ne_of e ha (by simp))]; exact e
  exact ⟨k.upN hb _, P.upd (Pb.ne hb) (Pb.neC hb), upd_same, (hds.tu tu).app (hes.tu tu)⟩
/-- a dict of pairs, the names told apart -/
theorem mergeK_new : ∀ (kvs acc : List (Key × V)), ((acc ++ kvs).map (·.1)).Nodup → mergeK acc kvs = acc ++ kvs
  | [], acc, _ => by
    rw [List.append_nil]
    rfl
  | (k, v) :: r, acc, h => by
    have hn : valV acc k = none := by
      have h2 : k ∉ acc.map (·.1) := by
        rw [List.map_append] at h
        have h3 := List.nodup_append.mp h
        exact fun z => h3.2.2 k z k (by simp) rfl
      clear h
      induction acc with
      | nil => rfl
      | cons q t ih =>
        rw [valV_neg (fun e => h2 (by rw [← e]; exact List.mem_cons_self ..))]
        exact ih fun z => h2 (List.mem_cons_of_mem _ z)
    show mergeK (putK acc k v) r = _
    rw [putK_new v hn, mergeK_new r (acc ++ [(k, v)]) (by rw [List.append_assoc]; exact h), List.append_assoc]
    rfl
end T65
end
section
/-! W37: the drawn things. -/
namespace T65
open PySem PySem.Spec PyProof.Rows L2
theorem KD.keys {H : Hp} {kvs : List (Key × V)} {nds : List (Str × PyData)} (h : KD H kvs nds) : kvs.map (·.1) = (nds.map (·.1)).map fun n => (Sum.inr n : Key) := by
  induction h with
  | nil => rfl
  | cons _ _ ih =>
    rw [List.map_cons, List.map_cons, List.map_cons, ih]
theorem nodup_inr : ∀ {l : List Str}, l.Nodup → (l.map fun n => (Sum.inr n : Key)).Nodup
  | [], _ => List.nodup_nil
  | a :: r, h => by
    obtain ⟨h1, h2⟩ := List.nodup_cons.mp h
    rw [List.map_cons]
    refine List.nodup_cons.mpr ⟨fun z => ?_, nodup_inr h2⟩
    obtain ⟨b, hb, e⟩ := List.mem_map.mp z
    cases e
    exact h1 hb
theorem nats_of {ks : List Int} (h : ∀ k ∈ ks, ∃ n : Nat, n ≤ 1000000 ∧ k = n) (hp : ks.Pairwise (· < ·)) : ∃ ps : List Nat, ks = ps.map (fun n => ((n : Nat) : Int)) ∧ ps.Pairwise (· < ·) ∧ ∀ n ∈ ps, n ≤ 1000000 := by
  induction ks with
  | nil => exact ⟨[], rfl, List.Pairwise.nil, fun _ z => by simp at z⟩
  | cons k r ih =>
    obtain ⟨h1, h2⟩ := List.pairwise_cons.mp hp
    obtain ⟨n, hn, rfl⟩ := h k (List.mem_cons_self ..)
    obtain ⟨ps, rfl, h3, h4⟩ := ih (fun e he => h e (List.mem_cons_of_mem _ he)) h2
    refine ⟨n :: ps, rfl, List.pairwise_cons.mpr ⟨fun m hm => ?_, h3⟩, fun m hm => ?_⟩
    · have := h1 ((m : Nat) : Int) (List.mem_map_of_mem (f := fun n : Nat => (n : Int)) hm)
      omega
    · rcases List.mem_cons.mp hm with rfl | hm
      · exact hn
      · exact h4 m hm
theorem sortD_pw (ds : List PyData) : (sortD ds).Pairwise fun a b => PySem.W.dataLe false id a b = true :=
  PySem.W.sort_pairwise (PySem.W.sortLe_total _ _ _) ds
theorem valV_at {k : Key} {v : V} : ∀ {kvs : List (Key × V)} {i : Nat}, kvs[i]? = some (k, v) → (kvs.map (·.1)).Nodup → valV kvs k = some v
  | [], _, e, _ => by simp at e
  | q :: r, 0, e, _ => by
    simp at e
    subst e
    exact valV_pos rfl
  | q :: r, i + 1, e, h => by
    obtain ⟨h1, h2⟩ := List.nodup_cons.mp h
    have e' : r[i]? = some (k, v) := by simpa using e
    rw [valV_neg (fun z => h1 (List.mem_map.mpr ⟨(k, v), List.mem_of_getElem? e', z.symm⟩))]
    exact valV_at e' h2
abbrev NN2 : List Str := ["a"]
abbrev NN3 : List Str := ["zz", "word", "b"]
abbrev NN4 : List Str := ["a", "b", "c", "d", "e", "f", "g", "hh"]
section
variable {P : Program} {w : World} {K : PySem.W.Frag} {mg : Str → Option Value} {base : Heap} {C S f : Addr} {fd : FuncData}
theorem ok_law_some_things (g : G65 K mg C S) (F : Fn K "_law_some_things" s_law_some_things f fd) (gF : mg "_law_some_things" = some (.ref f))
    (c_law_below : Cal P w K mg base CX0 2 "_law_below" p_law_below spBelow) (c_law_pick : Cal P w K mg base CX0 3 "_law_pick" p_law_pick (spPick K)) (c_law_some_letters : Cal P w K mg base CX0 4 "_law_some_letters" p_law_some_letters spSomeL)
    (c_law_fit_rule : Cal P w K mg base CX0 8 "_law_fit_rule" p_law_fit_rule spFit) (c_law_rule_text : Cal P w K mg base CX0 5 "_law_rule_text" p_law_rule_text (spFmt 4)) :
    Cal P w K mg base CX0 9 "_law_some_things" p_law_some_things spThings := by
  refine cal_of F gF sc_law_some_things (fun vs H Q E h => by obtain ⟨p, c, rfl, _⟩ := h; rfl) (fun cdv A outer s H vs Q E hr h => ⟨_,
      (pss_cons (ps_set (i := 1) sc_law_some_things.nd rfl (by first | exact Or.inl rfl | exact Or.inr rfl) (pe_callB cr_sortedS rfl g.sorted rfl (pa_cons (pe_cal c_law_some_letters hr pass0 (pa_cons (pv 0) pa_nil)) pa_nil)))
      (pss_cons (ps_set (i := 2) sc_law_some_things.nd rfl (by first | exact Or.inl rfl | exact Or.inr rfl) (pe_cal c_law_fit_rule hr pass0 (pa_cons (pv 0) (pa_cons (pv 1) pa_nil))))
      (pss_cons (ps_set (i := 3) sc_law_some_things.nd rfl (by first | exact Or.inl rfl | exact Or.inr rfl) (pe_callTy call_tuple_of rfl g.tuple rfl (pa_cons (pe_lc rfl sc_law_some_things.nd (pi_range1 rfl g.range (pa_cons (pe_cal c_law_pick hr pass0 (pa_cons (pv 0) (pa_cons (pe_lst (pa_cons pe_int (pa_cons pe_int (pa_cons pe_int (pa_cons pe_int pa_nil))))) pa_nil))) pa_nil)) (own := [("_law_place", 17)]) (blkOk_by (by kernel_rfl)) (fun _ _ _ _ _ => (pg_name (i := 17) sc_law_some_things.nd rfl (by first | exact Or.inl rfl | exact Or.inr rfl))) (fun _ _ _ _ _ => pts_nil) (fun _ _ _ _ _ => (pe_cal c_law_pick hr pass0 (pa_cons (pv 0) (pa_cons (pv 1) pa_nil))))) pa_nil)))
      (pss_cons (ps_set (i := 4) sc_law_some_things.nd rfl (by first | exact Or.inl rfl | exact Or.inr rfl) (pe_lst pa_nil))
      (pss_cons (ps_for (passes_of rfl) rfl (pi_range1 rfl g.range (pa_cons (pe_cal c_law_pick hr pass0 (pa_cons (pv 0) (pa_cons (pe_lst (pa_cons pe_int (pa_cons pe_int (pa_cons pe_int (pa_cons pe_int pa_nil))))) pa_nil))) pa_nil)) (pg_name (i := 5) sc_law_some_things.nd rfl (by first | exact Or.inl rfl | exact Or.inr rfl))
        (pss_cons (ps_set (i := 6) sc_law_some_things.nd rfl (by first | exact Or.inl rfl | exact Or.inr rfl) (pe_cal c_law_pick hr pass0 (pa_cons (pv 0) (pa_cons (pe_lst (pa_cons pe_str (pa_cons pe_str (pa_cons pe_str (pa_cons pe_int (pa_cons pe_int (pa_cons pe_int pa_nil))))))) pa_nil))))
        (pss_one (ps_expr (pe_bm PySem.F.plainAttrs_list PySem.F.slot_list_append PySem.F.type_list_append mt_append (pv 4) (pa_cons (pe_tup (pa_cons (pe_cal c_law_below hr pass0 (pa_cons (pv 0) (pa_cons pe_int pa_nil))) (pa_cons (pe_cal c_law_pick hr pass0 (pa_cons (pv 0) (pa_cons (pe_lst (pa_cons pe_int (pa_cons pe_int (pa_cons pe_int pa_nil)))) pa_nil))) (pa_cons (pv 6) pa_nil)))) pa_nil))))))
      (pss_cons (ps_set (i := 7) sc_law_some_things.nd rfl (by first | exact Or.inl rfl | exact Or.inr rfl) (pe_callTy call_tuple_of rfl g.tuple rfl (pa_cons (pe_lc rfl sc_law_some_things.nd (pi_range1 rfl g.range (pa_cons (pe_cal c_law_below hr pass0 (pa_cons (pv 0) (pa_cons pe_int pa_nil))) pa_nil)) (own := [("_law_place", 17)]) (blkOk_by (by kernel_rfl)) (fun _ _ _ _ _ => (pg_name (i := 17) sc_law_some_things.nd rfl (by first | exact Or.inl rfl | exact Or.inr rfl))) (fun _ _ _ _ _ => pts_nil) (fun _ _ _ _ _ => (pe_cal c_law_below hr pass0 (pa_cons (pv 0) (pa_cons pe_int pa_nil))))) pa_nil)))
      (pss_cons (ps_set (i := 8) sc_law_some_things.nd rfl (by first | exact Or.inl rfl | exact Or.inr rfl) (pe_cal c_law_pick hr pass0 (pa_cons (pv 0) (pa_cons (pe_lst (pa_cons (pe_lst pa_nil) (pa_cons (pe_lst (pa_cons pe_str pa_nil)) (pa_cons (pe_lst (pa_cons pe_str (pa_cons pe_str (pa_cons pe_str pa_nil)))) (pa_cons (pe_lst (pa_cons pe_str (pa_cons pe_str (pa_cons pe_str (pa_cons pe_str (pa_cons pe_str (pa_cons pe_str (pa_cons pe_str (pa_cons pe_str pa_nil))))))))) pa_nil))))) pa_nil))))
      (pss_cons (ps_set (i := 9) sc_law_some_things.nd rfl (by first | exact Or.inl rfl | exact Or.inr rfl) (pe_callTy (call_dictP rfl) rfl g.dict rfl (pa_cons (pe_lc rfl sc_law_some_things.nd (pi_listK (K := K) rfl (pv 8)) (own := [("_law_name", 6)]) (blkOk_by (by kernel_rfl)) (fun _ _ _ _ _ => (pg_name (i := 6) sc_law_some_things.nd rfl (by first | exact Or.inl rfl | exact Or.inr rfl))) (fun _ _ _ _ _ => pts_nil) (fun _ _ _ _ _ => (pe_tup (pa_cons (pv 6) (pa_cons (pe_cal c_law_fit_rule hr pass0 (pa_cons (pv 0) (pa_cons (pv 1) pa_nil))) pa_nil))))) pa_nil)))
      (pss_cons (ps_set (i := 10) sc_law_some_things.nd rfl (by first | exact Or.inl rfl | exact Or.inr rfl) (pe_callTy call_tuple_of rfl g.tuple rfl (pa_cons (pe_callB (cr_sortedSet rfl) rfl g.sorted rfl (pa_cons (pe_callTy (cr_setL rfl) rfl g.set rfl (pa_cons (pe_lc rfl sc_law_some_things.nd (pi_range1 rfl g.range (pa_cons (pe_cal c_law_below hr pass0 (pa_cons (pv 0) (pa_cons pe_int pa_nil))) pa_nil)) (own := [("_law_turn", 5)]) (blkOk_by (by kernel_rfl)) (fun _ _ _ _ _ => (pg_name (i := 5) sc_law_some_things.nd rfl (by first | exact Or.inl rfl | exact Or.inr rfl))) (fun _ _ _ _ _ => pts_nil) (fun _ _ _ _ _ => (pe_cal c_law_pick hr pass0 (pa_cons (pv 0) (pa_cons (pe_lst (pa_cons pe_int (pa_cons pe_int (pa_cons pe_int (pa_cons pe_int (pa_cons pe_int (pa_cons (pe_op op_pow pe_int pe_int) pa_nil))))))) pa_nil))))) pa_nil)) pa_nil)) pa_nil)))
      (pss_cons (ps_set (i := 11) sc_law_some_things.nd rfl (by first | exact Or.inl rfl | exact Or.inr rfl) (pe_lst pa_nil))
      (pss_cons (ps_for (passes_of rfl) rfl (pi_range1 rfl g.range (pa_cons (pe_ifExp (pt_cmpR (op_neD (hu64 hr)) (pv 10) (pe_tup pa_nil) (nomark _)) (pe_cal c_law_below hr pass0 (pa_cons (pv 0) (pa_cons pe_int pa_nil))) pe_int) pa_nil)) (pg_name (i := 5) sc_law_some_things.nd rfl (by first | exact Or.inl rfl | exact Or.inr rfl))
        (pss_cons (ps_set (i := 12) sc_law_some_things.nd rfl (by first | exact Or.inl rfl | exact Or.inr rfl) (pe_tup (pa_cons (pe_cal c_law_pick hr pass0 (pa_cons (pv 0) (pa_cons (pv 10) pa_nil))) (pa_cons (pe_cal c_law_pick hr pass0 (pa_cons (pv 0) (pa_cons (pv 10) pa_nil))) pa_nil))))
        (pss_one (ps_expr (pe_bm PySem.F.plainAttrs_list PySem.F.slot_list_append PySem.F.type_list_append mt_append (pv 11) (pa_cons (pe_op (r := rCatA K) op_catA (pe_op (r := rCatA K) op_catA (pe_tup (pa_cons (pe_cal c_law_pick hr pass0 (pa_cons (pv 0) (pa_cons (pv 1) pa_nil))) pa_nil)) (pv 12)) (pe_tup (pa_cons (pe_cal c_law_pick hr pass0 (pa_cons (pv 0) (pa_cons (pe_lst (pa_cons pe_int (pa_cons pe_int (pa_cons (pe_op op_pow pe_int pe_int) pa_nil)))) pa_nil))) pa_nil))) pa_nil))))))
      (pss_cons (ps_set (i := 13) sc_law_some_things.nd rfl (by first | exact Or.inl rfl | exact Or.inr rfl) (pe_tup (pa_cons (pv 10) (pa_cons (pe_callTy call_tuple_of rfl g.tuple rfl (pa_cons (pe_callB (cr_sortedT (hu64 hr)) rfl g.sorted rfl (pa_cons (pv 11) pa_nil)) pa_nil)) pa_nil))))
      (pss_cons (ps_set (i := 14) sc_law_some_things.nd rfl (by first | exact Or.inl rfl | exact Or.inr rfl) (pe_lst (pa_cons (pe_joinK (K := K) rfl pe_str (pe_op op_cat (pe_lst (pa_cons pe_str pa_nil)) (pe_lc rfl sc_law_some_things.nd (pi_tupK (K := K) rfl (pv 10)) (own := [("_law_place", 17)]) (blkOk_by (by kernel_rfl)) (fun _ _ _ _ _ => (pg_name (i := 17) sc_law_some_things.nd rfl (by first | exact Or.inl rfl | exact Or.inr rfl))) (fun _ _ _ _ _ => pts_nil) (fun _ _ _ _ _ => (pe_callTy call_str_int rfl g.str_ rfl (pa_cons (pv 17) pa_nil)))))) pa_nil)))
      (pss_cons (ps_set (i := 14) sc_law_some_things.nd rfl (by first | exact Or.inl rfl | exact Or.inr rfl) (pe_op op_cat (pv 14) (pe_lc rfl sc_law_some_things.nd (pi_listK (K := K) rfl (pe_callB (cr_sortedT (hu64 hr)) rfl g.sorted rfl (pa_cons (pv 11) pa_nil))) (own := [("_law_one", 18)]) (blkOk_by (by kernel_rfl)) (fun _ _ _ _ _ => (pg_name (i := 18) sc_law_some_things.nd rfl (by first | exact Or.inl rfl | exact Or.inr rfl))) (fun _ _ _ _ _ => pts_nil) (fun _ _ _ _ _ => (pe_joinK (K := K) rfl pe_str (pe_op op_cat (pe_lst (pa_cons pe_str (pa_cons (pe_ix (r := rIxT K) ix_tup (pv 18) pe_int (fun _ _ => rfl)) pa_nil))) (pe_lc rfl sc_law_some_things.nd (pi_tupK (K := K) rfl (pe_slice (r := rSlA K) sl_tupA (pv 18) (po_some pe_int) po_none)) (own := [("_law_part", 19)]) (blkOk_by (by kernel_rfl)) (fun _ _ _ _ _ => (pg_name (i := 19) sc_law_some_things.nd rfl (by first | exact Or.inl rfl | exact Or.inr rfl))) (fun _ _ _ _ _ => pts_nil) (fun _ _ _ _ _ => (pe_callTy call_str_any rfl g.str_ rfl (pa_cons (pv 19) pa_nil))))))))))
      (pss_cons (ps_set (i := 15) sc_law_some_things.nd rfl (by first | exact Or.inl rfl | exact Or.inr rfl) (pe_joinK (K := K) rfl pe_str (pe_lc rfl sc_law_some_things.nd (pi_listK (K := K) rfl (pv 4)) (own := [("_law_step", 20)]) (blkOk_by (by kernel_rfl)) (fun _ _ _ _ _ => (pg_name (i := 20) sc_law_some_things.nd rfl (by first | exact Or.inl rfl | exact Or.inr rfl))) (fun _ _ _ _ _ => pts_nil) (fun _ _ _ _ _ => (pe_joinK (K := K) rfl pe_str (pe_lc rfl sc_law_some_things.nd (pi_tupK (K := K) rfl (pv 20)) (own := [("_law_part", 19)]) (blkOk_by (by kernel_rfl)) (fun _ _ _ _ _ => (pg_name (i := 19) sc_law_some_things.nd rfl (by first | exact Or.inl rfl | exact Or.inr rfl))) (fun _ _ _ _ _ => pts_nil) (fun _ _ _ _ _ => (pe_callTy call_str_any rfl g.str_ rfl (pa_cons (pv 19) pa_nil)))))))))
      (pss_cons (ps_set (i := 16) sc_law_some_things.nd rfl (by first | exact Or.inl rfl | exact Or.inr rfl) (pe_lst (pa_cons (pe_tup (pa_cons pe_str (pa_cons (pv 2) (pa_cons (pe_cal c_law_rule_text hr pass0 (pa_cons (pv 2) pa_nil)) pa_nil)))) (pa_cons (pe_tup (pa_cons pe_str (pa_cons (pv 3) (pa_cons (pe_joinK (K := K) rfl pe_str (pv 3)) pa_nil)))) (pa_cons (pe_tup (pa_cons pe_str (pa_cons (pe_callTy call_tuple_of rfl g.tuple rfl (pa_cons (pv 4) pa_nil)) (pa_cons (pv 15) pa_nil)))) pa_nil)))))
      (pss_cons (ps_set (i := 16) sc_law_some_things.nd rfl (by first | exact Or.inl rfl | exact Or.inr rfl) (pe_op op_cat (pv 16) (pe_lst (pa_cons (pe_tup (pa_cons pe_str (pa_cons (pv 7) (pa_cons (pe_joinK (K := K) rfl pe_str (pe_lc rfl sc_law_some_things.nd (pi_tupK (K := K) rfl (pv 7)) (own := [("_law_spot", 21)]) (blkOk_by (by kernel_rfl)) (fun _ _ _ _ _ => (pg_name (i := 21) sc_law_some_things.nd rfl (by first | exact Or.inl rfl | exact Or.inr rfl))) (fun _ _ _ _ _ => pts_nil) (fun _ _ _ _ _ => (pe_callTy call_str_int rfl g.str_ rfl (pa_cons (pv 21) pa_nil))))) pa_nil)))) (pa_cons (pe_tup (pa_cons pe_str (pa_cons (pv 13) (pa_cons (pe_joinK (K := K) rfl pe_str (pv 14)) pa_nil)))) pa_nil)))))
      (pss_one (ps_ret (pe_op op_cat (pv 16) (pe_lst (pa_cons (pe_tup (pa_cons pe_str (pa_cons (pv 9) (pa_cons (pe_joinK (K := K) rfl pe_str (pe_lock (pe_lc rfl sc_law_some_things.nd (pi_keys (pv 9)) (own := [("_law_name", 6)]) (blkOk_by (by kernel_rfl)) (fun _ _ _ _ _ => (pg_name (i := 6) sc_law_some_things.nd rfl (by first | exact Or.inl rfl | exact Or.inr rfl))) (fun _ _ _ _ _ => pts_nil) (fun _ _ _ _ _ => (pe_op op_add_str (pe_op op_add_str (pv 6) pe_str) (pe_cal c_law_rule_text hr pass0 (pa_cons (pe_dget (hu_of hr) (pv 9) (pv 6) (fun _ _ => rfl)) pa_nil))))))) pa_nil)))) pa_nil)))))))))))))))))))))), ?_⟩) (fun _ _ _ _ _ _ us hl => match us, hl with | [_], _ => rfl)
  obtain ⟨p, c, rfl, hP, q⟩ := h
  -- letters
  refine ⟨_, rfl, p, c, rfl, hP, fun H1 l1 k1 P1 L1 => ?_⟩
  obtain ⟨l1p, ls1, a1, a2, a3, a4⟩ := L1
  refine ⟨l1, ls1, rfl, SqL.of a1, by omega, fun ys l2 perm srt f2 => ?_⟩
  have L2' : LetA (upd H1 l2 (.lst (ys.map V.str))) l2 p := ⟨P1.ne f2, ys, upd_same, fun e => a2 (by rw [e] at perm; exact perm.symm.eq_nil), by rw [perm.length_eq]; exact a3, fun x hx => a4 x (perm.mem_iff.mp hx)⟩
  have P2 := P1.new f2 (.lst (ys.map V.str))
  have k2 := k1.new f2 (.lst (ys.map V.str))
  generalize upd H1 l2 (.lst (ys.map V.str)) = H2 at L2' P2 k2 ⊢
  -- rule
  refine ⟨_, rfl, _, rfl, p, c, l2, rfl, P2, L2', fun H3 vr dr k23 P3 tr okr => ?_⟩
  have k3 := k2.trans k23
  have L3 := L2'.kp k23
  have B3 : Bn p H3 [(vr, dr)] [] [] [] := ⟨fun z hz => by rw [List.mem_singleton.mp hz]; exact tr, fun _ z => by simp at z, fun _ z => by simp at z, fun _ z => by simp at z⟩
  clear tr L2' P2 k2 k23 a1 a2 a3 a4 P1 k1
  -- word
  refine ⟨_, rfl, (by show 4 ≤ sizeLine; decide), fun q3 fq3 => ⟨p, c, q3, nsV [0, 1, 5, 30], rfl, P3.new fq3 _, P3.ne fq3, .inl upd_same, by simp [nsV], by decide, fun H4 v4 k34 P4 hv4 => ?_⟩⟩
  obtain ⟨m4, hm4, _, rfl⟩ := int_of (b := 30) hv4 (by decide)
  have kq := ((Kp.refl [p] H3).new fq3 (.lst (nsV [0, 1, 5, 30]))).trans k34
  have k4 := k3.trans kq
  have L4 := L3.kp kq
  have B4 := B3.kp kq
  clear kq B3 L3 k3 k34
  refine ⟨_, rfl, by omega, by omega, fun D4 fD4 => ?_⟩
  refine lc_rng (p := p) (c := c) (fun d => ∃ x, x ∈ Lts ∧ d = .str x) (m4 : Int).toNat fD4 P4 (by rw [sizeLine_eq]; omega) (fun i H5 Kc k5 P5 hK => ?_) (fun H5 us5 ds5 k45 P5 hD5 hds5 hlen5 hgood5 => ?_)
  · obtain ⟨lp, ls, e1, e2, e3, e4⟩ := L4.kp k5
    refine ⟨rfl, _, rfl, _, rfl, p, c, l2, ls.map V.str, rfl, P5, lp, .inl e1, by simpa using e2, by rw [List.length_map]; omega, fun H5 v k5 P5 hv => ?_⟩
    obtain ⟨x, hx, rfl⟩ := List.mem_map.mp hv
    exact hK H5 _ (.str x) k5 P5 (.str x) ⟨x, e4 x hx, rfl⟩
  obtain ⟨wls, rfl, hwls⟩ := strs_of hgood5
  refine ⟨D4, us5, rfl, .inl ⟨SqL.of hD5, fun vw fvw => ?_⟩⟩
  have hwlen : wls.length ≤ 30 := by
    rw [List.length_map] at hlen5
    omega
  have k5 := k45.new fvw (.tup us5)
  have B6 : Bn p (upd H5 vw (.tup us5)) [(.ref vw, tupS wls), (vr, dr)] [] [] [] := (B4.kp k5).aT (TD.tup upd_same (hds5.tu (Tu.new fvw)))
  have L6 := L4.kp k5
  have P6 := P5.new fvw (.tup us5)
  have k6 := k4.trans k5
  generalize upd H5 vw (.tup us5) = H6 at B6 L6 P6 k6 ⊢
  clear B4 L4 P4 k4 k45 hD5 hds5 hgood5 P5 k5 hlen5 P3
  -- route
  refine ⟨Nat.zero_le _, fun rt frt => ?_⟩
  have k7 := (Kp.refl [p] H6).new frt (.lst [])
  have P7 := P6.new frt (.lst [])
  have rtp := P6.ne frt
  refine ⟨_, rfl, (by show 4 ≤ sizeLine; decide), fun q7 fq7 => ⟨p, c, q7, nsV [0, 1, 3, 60], rfl, P7.new fq7 _, P7.ne fq7, .inl upd_same, by simp [nsV], by decide, fun H7 v7 k67 P8 hv7 => ?_⟩⟩
  obtain ⟨m7, hm7, _, rfl⟩ := int_of (b := 60) hv7 (by decide)
  have kq := ((Kp.refl [p] (upd H6 rt (.lst []))).new fq7 (.lst (nsV [0, 1, 3, 60]))).trans k67
  have h7 : H7 rt = some (.lst []) := kq.at_ upd_same (by simpa using rtp)
  have k8 := k7.trans kq
  clear kq k67 k7
  refine ⟨_, rfl, by omega, by omega, ?_⟩
  refine for_by (m7 : Int).toNat (fun i σ H => ∃ (us : List V) (ds : List PyData) (e5 e6 : Option V), σ = [some (.ref p), some (.ref l2), some vr, some (.ref vw), some (.ref rt), e5, e6, none, none, none, none, none, none, none, none, none, none, none, none, none, none, none] ∧ Kp [p] H6 H ∧ PotOk H p c ∧ H rt = some (.lst us) ∧ TDs H us ds ∧ ds.length = i ∧ ∀ d ∈ ds, StepOk d)
    ⟨[], [], none, none, rfl, k8, P8, h7, .nil, rfl, fun _ z => by simp at z⟩ (fun i σ H6 hi _ => hi) (fun σ H6 _ => Nat.le_refl _) (fun t v σ H8 H9 hi hP hy => ?_) (fun σ H8 hP => ?_)
  · obtain ⟨us, ds, e5, e6, rfl, kk, PP, hrt, hds, hln, hok⟩ := hP
    obtain ⟨rfl, rfl⟩ := hy
    refine ⟨_, rfl, (by show 6 ≤ sizeLine; decide), fun q8 fq8 => ⟨p, c, q8, [.str "a", .str "xy", .str "abcdefgh", .int 0, .int 7, .int 9999], rfl, PP.new fq8 _, PP.ne fq8, .inl upd_same, by simp, by decide, fun H10 v10 k10 P10 hv10 => ?_⟩⟩
    have ka := ((Kp.refl [p] H9).new fq8 (.lst [.str "a", .str "xy", .str "abcdefgh", .int 0, .int 7, .int 9999])).trans k10
    have hrt10 := ka.at_ hrt (by simpa using rtp)
    refine ⟨_, rfl, .inl ⟨rfl, _, SqL.of hrt10⟩, _, rfl, p, c, 31, rfl, P10, by decide, by decide, fun H11 n11 k11 P11 hn11 => ?_⟩
    refine ⟨_, rfl, (by show 3 ≤ sizeLine; decide), fun q11 fq11 => ⟨p, c, q11, nsV [0, 7, 30], rfl, P11.new fq11 _, P11.ne fq11, .inl upd_same, by simp [nsV], by decide, fun H12 v12 k12 P12 hv12 => ?_⟩⟩
    obtain ⟨m12, hm12, _, rfl⟩ := int_of (b := 30) hv12 (by decide)
    have kb := ((Kp.refl [p] H11).new fq11 (.lst (nsV [0, 7, 30]))).trans k12
    have kc := (ka.trans k11).trans kb
    refine ⟨_, rfl, (by show 3 ≤ sizeLine; decide), fun t3 ft3 => ?_⟩
    have kd := kc.new ft3 (.tup [.int n11, .int m12, v10])
    have hrt2 := kd.at_ hrt (by simpa using rtp)
    obtain ⟨d10, td10, hd10⟩ : ∃ d10 : PyData, (∀ H : Hp, TD H v10 d10) ∧ (d10 = .str "a" ∨ d10 = .str "xy" ∨ d10 = .str "abcdefgh" ∨ d10 = .int 0 ∨ d10 = .int 7 ∨ d10 = .int 9999) := by
      simp only [List.mem_cons, List.not_mem_nil, or_false] at hv10
      rcases hv10 with rfl | rfl | rfl | rfl | rfl | rfl
      · exact ⟨_, fun _ => .str _, .inl rfl⟩
      · exact ⟨_, fun _ => .str _, .inr (.inl rfl)⟩
      · exact ⟨_, fun _ => .str _, .inr (.inr (.inl rfl))⟩
      · exact ⟨_, fun _ => .int _, .inr (.inr (.inr (.inl rfl)))⟩
      · exact ⟨_, fun _ => .int _, .inr (.inr (.inr (.inr (.inl rfl))))⟩
      · exact ⟨_, fun _ => .int _, .inr (.inr (.inr (.inr (.inr rfl))))⟩
    obtain ⟨g1, g2, g3, g4⟩ := grow frt P6 (kk.trans kd) (P12.new ft3 (.tup [.int n11, .int m12, v10])) hrt2 (hds.tu kd.tu) (TDs.one (TD.tup (a := t3) upd_same (.cons (.int n11) (.cons (.int m12) (TDs.one (td10 _))))))
    have hl : us.length = ds.length := hds.len
    refine ⟨rt, us, .ref t3, rfl, rfl, hrt2, by rw [sizeLine_eq]; omega, us ++ [.ref t3], ds ++ [.tuple [.int n11, .int m12, d10]], _, _, rfl, g1, g2, g3, g4, by rw [List.length_append, hln]; rfl, fun d hd => ?_⟩
    rcases List.mem_append.mp hd with hd | hd
    · exact hok d hd
    · rw [List.mem_singleton.mp hd]
      exact ⟨n11, m12, d10, by omega, hm12, hd10, rfl⟩
  obtain ⟨rus, rds, e5, e6, rfl, kk, PP, hrt, hrds, hrln, hrok⟩ := hP
  have hrlen : rds.length ≤ 60 := by omega
  have B8 : Bn p H8 [(.ref vw, tupS wls), (vr, dr)] [(rt, rus)] [(rus, rds)] [] := ((B6.kp kk).aL rtp hrt).aS hrds
  have L8 := L6.kp kk
  have k8 := k6.trans kk
  clear B6 L6 k6 kk hrt hrds P8 h7 P7 P6
  -- spots
  refine ⟨_, rfl, p, c, 6, rfl, PP, by decide, by decide, fun H9 n9 k89 P9 hn9 => ⟨_, rfl, by omega, by omega, fun D9 fD9 => ?_⟩⟩
  have B9 := B8.kp k89
  have L9 := L8.kp k89
  have k9 := k8.trans k89
  clear B8 L8 k8 k89 PP
  refine lc_rng (p := p) (c := c) (fun d => ∃ n : Nat, n ≤ 30 ∧ d = .int n) (n9 : Int).toNat fD9 P9 (by rw [sizeLine_eq]; omega) (fun i H10 Kc k10 P10 hK => ⟨rfl, _, rfl, p, c, 31, rfl, P10, by decide, by decide, fun H11 n k11 P11 hn => hK H11 _ (.int n) k11 P11 (.int n) ⟨n, by omega, rfl⟩⟩) (fun H10 us10 ds10 k10 P10 hD10 hds10 hlen10 hgood10 => ?_)
  obtain ⟨sns, rfl, hsns⟩ := ints_of hgood10
  have hslen : sns.length ≤ 30 := by
    rw [List.length_map] at hlen10
    omega
  refine ⟨D9, us10, rfl, .inl ⟨SqL.of hD10, fun vs fvs => ?_⟩⟩
  have kq := k10.new fvs (.tup us10)
  have B11 : Bn p (upd H10 vs (.tup us10)) [(.ref vs, tupI sns), (.ref vw, tupS wls), (vr, dr)] [(rt, rus)] [(rus, rds)] [] := (B9.kp kq).aT (TD.tup upd_same (hds10.tu (Tu.new fvs)))
  have L11 := L9.kp kq
  have P11 := P10.new fvs (.tup us10)
  have k11 := k9.trans kq
  generalize upd H10 vs (.tup us10) = H11 at B11 L11 P11 k11 ⊢
  clear B9 L9 k9 k10 P10 hD10 hds10 hgood10 kq hlen10
  -- names
  refine ⟨_, rfl, Nat.zero_le _, fun n1 g1 => ⟨(by show 1 ≤ sizeLine; decide), fun n2 g2 => ⟨(by show 3 ≤ sizeLine; decide), fun n3 g3 => ⟨(by show 8 ≤ sizeLine; decide), fun n4 g4 => ⟨(by show 4 ≤ sizeLine; decide), fun n5 g5 => ?_⟩⟩⟩⟩⟩
  have c1 := (Kp.refl [] H11).new g1 (.lst [])
  have c2 := (Kp.refl [] _).new g2 (.lst (NN2.map V.str))
  have c3 := (Kp.refl [] _).new g3 (.lst (NN3.map V.str))
  have c4 := (Kp.refl [] _).new g4 (.lst (NN4.map V.str))
  have c5 := (Kp.refl [] _).new g5 (.lst [.ref n1, .ref n2, .ref n3, .ref n4])
  have c45 := c4.trans c5
  have c35 := c3.trans c45
  have c25 := c2.trans c35
  have c15 := c1.trans c25
  have Q1 := P11.new g1 (.lst [])
  have Q2 := Q1.new g2 (.lst (NN2.map V.str))
  have Q3 := Q2.new g3 (.lst (NN3.map V.str))
  have Q4 := Q3.new g4 (.lst (NN4.map V.str))
  refine ⟨p, c, n5, _, rfl, Q4.new g5 _, Q4.ne g5, .inl upd_same, by simp, (by show 4 < 2 ^ 29; decide), fun H12 v12 k512 P12 hv12 => ?_⟩
  obtain ⟨nl, nns, rfl, nlp, hnl, nnd, nmem, nlen⟩ : ∃ (nl : Addr) (nns : List Str), v12 = .ref nl ∧ nl ≠ p ∧ H12 nl = some (.lst (nns.map V.str)) ∧ nns.Nodup ∧ (∀ n ∈ nns, n ∈ nms) ∧ nns.length ≤ 8 := by
    simp only [List.mem_cons, List.not_mem_nil, or_false] at hv12
    rcases hv12 with rfl | rfl | rfl | rfl
    · exact ⟨n1, [], rfl, P11.ne g1, k512.at_ (c25.at0 upd_same) (by simpa using P11.ne g1), by decide, by decide, by decide⟩
    · exact ⟨n2, NN2, rfl, Q1.ne g2, k512.at_ (c35.at0 upd_same) (by simpa using Q1.ne g2), by decide, by decide, by decide⟩
    · exact ⟨n3, NN3, rfl, Q2.ne g3, k512.at_ (c45.at0 upd_same) (by simpa using Q2.ne g3), by decide, by decide, by decide⟩
    · exact ⟨n4, NN4, rfl, Q3.ne g4, k512.at_ (c5.at0 upd_same) (by simpa using Q3.ne g4), by decide, by decide, by decide⟩
  have kq := c15.any.trans k512
  have B12 := B11.kp kq
  have L12 := L11.kp kq
  have k12 := k11.trans kq
  clear B11 L11 k11 kq c1 c2 c3 c4 c5 c15 c25 c35 c45 Q1 Q2 Q3 Q4 k512 P11 hv12
  -- book
  refine ⟨_, rfl, nl, rfl, ⟨_, SqL.of hnl⟩, fun D12 fD12 => ?_⟩
  have Dp12 := P12.ne fD12
  refine lc_by nns.length (fun i H => Kp [p] H12 H ∧ PotOk H p c ∧ ∃ (as : List Addr) (kvs : List (Key × V)) (nds : List (Str × PyData)), H D12 = some (.lst (as.map V.ref)) ∧ Paired (fun a kv => H a = some (.tup [kV kv.1, kv.2])) as kvs ∧ KD H kvs nds ∧ nds.map (·.1) = nns.take i ∧ as.length = i ∧ ∀ q ∈ nds, RuleOk q.2)
    ⟨(Kp.refl [p] H12).new fD12 _, P12.new fD12 _, [], [], [], upd_same, .nil, .nil, rfl, rfl, fun _ z => by simp at z⟩ (fun i H hi hP => ?_) (fun H hP => ?_) (fun i v H H' hi hP hy => ?_) (fun H13 hP => ?_)
  · exact ⟨_, .str nns[i], SqL.of (hP.1.at_ hnl (by simpa using nlp)), by rw [List.getElem?_map, List.getElem?_eq_getElem hi]; rfl⟩
  · exact ⟨_, SqL.of (hP.1.at_ hnl (by simpa using nlp)), by rw [List.length_map]; exact Nat.le_refl _⟩
  · obtain ⟨kk, PP, as, kvs, nds, h1, h2, h3, h4, h5, h6⟩ := hP
    obtain ⟨rfl, hx⟩ := hy
    have hv := hx _ (SqL.of (kk.at_ hnl (by simpa using nlp)))
    rw [List.getElem?_map, List.getElem?_eq_getElem hi] at hv
    cases hv
    refine ⟨rfl, _, rfl, _, rfl, _, rfl, p, c, l2, rfl, PP, L12.kp kk, fun H14 v14 d14 k14 P14 t14 r14 => ⟨(by show 2 ≤ sizeLine; decide), fun t ft => ?_⟩⟩
    have h1' : upd H14 t (.tup [.str nns[i], v14]) D12 = some (.lst (as.map V.ref)) := by
      rw [upd_ne (ne_of_none (k14.at_ h1 (by simpa using Dp12)) ft)]
      exact k14.at_ h1 (by simpa using Dp12)
    have ktu : Tu H' (upd (upd H14 t (.tup [.str nns[i], v14])) D12 (.lst (as.map V.ref ++ [.ref t]))) := fun b xs e => by
      have e2 := (Tu.new (o := .tup [.str nns[i], v14]) ft) b xs (k14.tu b xs e)
      rw [upd_ne (ne_of e2 h1' (by simp))]
      exact e2
    have ktu2 : Tu H14 (upd (upd H14 t (.tup [.str nns[i], v14])) D12 (.lst (as.map V.ref ++ [.ref t]))) := fun b xs e => by
      have e2 := (Tu.new (o := .tup [.str nns[i], v14]) ft) b xs e
      rw [upd_ne (ne_of e2 h1' (by simp))]
      exact e2
    have tD : t ≠ D12 := fun z => by
      rw [← z, upd_same] at h1'
      cases h1'
    refine ⟨as.map V.ref, h1', by rw [List.length_map, sizeLine_eq]; omega, ((kk.trans k14).new ft _).upN fD12 _, (P14.new ft _).upd Dp12 (P12.neC fD12), as ++ [t], kvs ++ [(.inr nns[i], v14)], nds ++ [(nns[i], d14)], by rw [upd_same, List.map_append]; rfl, ?_, ?_, ?_, by rw [List.length_append, h5]; rfl, ?_⟩
    · exact Paired.snoc (Paired.mapP h2 fun a kv z => ktu a _ z) (by rw [upd_ne tD, upd_same]; rfl)
    · exact (h3.tu ktu).app (.cons (t14.tu ktu2) .nil)
    · rw [List.map_append, h4, List.take_succ, List.getElem?_eq_getElem hi]
      rfl
    · intro q hq
      rcases List.mem_append.mp hq with hq | hq
      · exact h6 q hq
      · rw [List.mem_singleton.mp hq]
        exact r14
  obtain ⟨kk, PP, as, kvs, nds, h1, h2, h3, h4, h5, h6⟩ := hP
  rw [List.take_length] at h4
  refine ⟨D12, as, kvs, rfl, SqL.of h1, Paired.mapP h2 fun a kv z => SqT.of z, fun bk fbk => ?_⟩
  rw [mergeK_new kvs [] (by rw [List.nil_append, h3.keys, h4]; exact nodup_inr nnd), List.nil_append]
  have kq := kk.new fbk (.dK kvs)
  have B15 : Bn p (upd H13 bk (.dK kvs)) [(.ref vs, tupI sns), (.ref vw, tupS wls), (vr, dr)] [(rt, rus)] [(rus, rds)] [(bk, kvs, nds)] := (B12.kp kq).aD upd_same (h3.tu (Tu.new fbk))
  have L15 := L12.kp kq
  have P15 := PP.new fbk (.dK kvs)
  have k15 := k12.trans kq
  have hnok : (Th.book nds).ok := ⟨fun q hq => ⟨nmem _ (by rw [← h4]; exact List.mem_map_of_mem hq), h6 q hq⟩, by rw [h4]; exact nnd, by rw [← List.length_map (f := fun q : Str × PyData => q.1), h4]; exact nlen⟩
  generalize upd H13 bk (.dK kvs) = H15 at B15 L15 P15 k15 ⊢
  clear B12 L12 P12 k12 kq kk PP h1 h2 h3 hnl
  -- places
  refine ⟨_, rfl, p, c, 6, rfl, P15, by decide, by decide, fun H16 n16 k1516 P16 hn16 => ⟨_, rfl, by omega, by omega, fun D16 fD16 => ?_⟩⟩
  have B16 := B15.kp k1516
  have L16 := L15.kp k1516
  have k16 := k15.trans k1516
  clear B15 L15 k15 k1516 P15
  refine lc_rng (p := p) (c := c) (fun d => ∃ n : Nat, n ≤ 1000000 ∧ d = .int n) (n16 : Int).toNat fD16 P16 (by rw [sizeLine_eq]; omega) (fun i H17 Kc k17 P17 hK => ?_) (fun H17 us17 ds17 k1617 P17 hD17 hds17 hlen17 hgood17 => ?_)
  · refine ⟨rfl, _, rfl, _, _, rfl, rfl, (by unfold CPow; decide), (by show 6 ≤ sizeLine; decide), fun q17 fq17 => ⟨p, c, q17, nsV [0, 1, 2, 10, 999999, 1000000], rfl, P17.new fq17 _, P17.ne fq17, .inl upd_same, by simp [nsV], by decide, fun H18 v18 k18 P18 hv18 => ?_⟩⟩
    obtain ⟨m, hm, _, rfl⟩ := int_of (b := 1000000) hv18 (by decide)
    exact hK H18 _ (.int m) (((Kp.refl [p] _).new fq17 _).trans k18) P18 (.int m) ⟨m, hm, rfl⟩
  obtain ⟨pns, rfl, hpns⟩ := ints_of hgood17
  have hus17 : us17 = (pns.map fun n => ((n : Nat) : Int)).map V.int := by
    have := TDs.int2 hds17
    rw [this, List.map_map]
    rfl
  subst hus17
  have hplen : pns.length < 6 := by
    rw [List.length_map] at hlen17
    omega
  refine ⟨D16, pns.map (fun n => ((n : Nat) : Int)), rfl, SqL.of hD17, (by rw [List.length_map]; show _ < 4096; omega), fun st nst hnst fst' => ?_⟩
  rw [List.length_map] at hnst
  refine ⟨st, _, nst, rfl, upd_same, by omega, fun ks sp hkp hkm hkl fsp => ?_⟩
  refine ⟨sp, ks.map V.int, rfl, .inl ⟨SqL.of upd_same, fun pl fpl => ?_⟩⟩
  obtain ⟨ps, rfl, hpp, hpb⟩ := nats_of (ks := ks) (fun k hk => by
    have := (hkm k).mp hk
    obtain ⟨n, hn, e⟩ := List.mem_map.mp (of_decide_eq_true this)
    exact ⟨n, hpns n hn, e.symm⟩) hkp
  have hpsl : ps.length ≤ 6 := by
    rw [List.length_map] at hkl
    omega
  have eks : (ps.map fun n => ((n : Nat) : Int)).map V.int = nsV ps := by
    rw [List.map_map]
    rfl
  rw [eks] at fpl ⊢
  have ka := (Kp.refl [p] H17).new fst' (SetO w st (fun j => decide (j ∈ pns.map fun n => ((n : Nat) : Int))) nst)
  have kb := (ka.new fsp (.lst (nsV ps))).new fpl (.tup (nsV ps))
  have P20 := ((P17.new fst' (SetO w st (fun j => decide (j ∈ pns.map fun n => ((n : Nat) : Int))) nst)).new fsp (.lst (nsV ps))).new fpl (.tup (nsV ps))
  have kq := k1617.trans kb
  obtain ⟨H20, e20⟩ : ∃ Z : Hp, Z = upd (upd (upd H17 st (SetO w st (fun j => decide (j ∈ pns.map fun n => ((n : Nat) : Int))) nst)) sp (.lst (nsV ps))) pl (.tup (nsV ps)) := ⟨_, rfl⟩
  have hpl20 : H20 pl = some (.tup (nsV ps)) := by rw [e20, upd_same]
  rw [← e20] at kb P20 kq
  dsimp only [cxOf]
  rw [← e20]
  have tints : ∀ ns : List Nat, TDs H20 (nsV ns) (ns.map fun n => PyData.int (n : Nat)) := fun ns => by
    induction ns with
    | nil => exact .nil
    | cons a r ih => exact .cons (.int a) ih
  have B20 : Bn p H20 [(.ref pl, tupI ps), (.ref vs, tupI sns), (.ref vw, tupS wls), (vr, dr)] [(rt, rus)] [(rus, rds)] [(bk, kvs, nds)] := (B16.kp kq).aT (TD.tup hpl20 (tints ps))
  have L20 := L16.kp kq
  have k20 := k16.trans kq
  have plp : pl ≠ p := fun z => by
    obtain ⟨_, _, _, _, _, y, _⟩ := P20
    rw [← z, hpl20] at y
    cases y
  clear B16 L16 k16 kq kb ka P17 hD17 hds17 hgood17 k1617 P16 hlen17 hkm
  -- roads
  refine ⟨Nat.zero_le _, fun rd frd => ?_⟩
  have k21 := (Kp.refl [p] H20).new frd (.lst [])
  have P21 := P20.new frd (.lst [])
  have rdp := P20.ne frd
  have hpl21 : upd H20 rd (.lst []) pl = some (.tup (nsV ps)) := k21.at_ hpl20 (by simpa using plp)
  dsimp only [gName]
  refine seq_Z fun Z hZ => ?_
  have after : ∀ (H : Hp) (us : List V) (ds : List PyData) (e5 e12 : Option V), Kp [p] H20 H → PotOk H p c → H rd = some (.lst us) → TDs H us ds → ds.length ≤ 6 → (∀ d ∈ ds, RoadOk ps d) →
      Z [some (.ref p), some (.ref l2), some vr, some (.ref vw), some (.ref rt), e5, e6, some (.ref vs), some (.ref nl), some (.ref bk), some (.ref pl), some (.ref rd), e12, none, none, none, none, none, none, none, none, none] H := by
    intro H24 dus dds e5 e12 kk PP hrd hdds hdlen hdok
    rw [hZ]
    have B24 := B20.kp kk
    have k24 := k20.trans kk
    have hpl24 := kk.at_ hpl20 (by simpa using plp)
    have dR : ∀ d ∈ dds, RoadD d := fun d hd => by
      obtain ⟨l, a, b, c, _, _, _, _, e⟩ := hdok d hd
      exact ⟨l, a, b, c, e⟩
    -- net
    refine ⟨_, rfl, _, rfl, rd, dus, dds, rfl, SqL.of hrd, hdds, road_alike dR, road_sortable dR, road_depth dR, fun s1 ys1 tds1 fs1 => ⟨s1, ys1, rfl, .inl ⟨SqL.of upd_same, fun st1 fst1 => ⟨(by show 2 ≤ sizeLine; decide), fun nt fnt => ?_⟩⟩⟩⟩
    have e1 := ((Kp.refl [p] H24).new fs1 (.lst ys1)).new fst1 (.tup ys1)
    have e2 := e1.new fnt (.tup [.ref pl, .ref st1])
    have n1 : st1 ≠ nt := ne_of_none upd_same fnt
    have P25 := ((PP.new fs1 (.lst ys1)).new fst1 (.tup ys1)).new fnt (.tup [.ref pl, .ref st1])
    have tnet : TD (upd (upd (upd H24 s1 (.lst ys1)) st1 (.tup ys1)) nt (.tup [.ref pl, .ref st1])) (.ref nt) (.tuple [tupI ps, .tuple (sortD dds)]) :=
      TD.tup upd_same (.cons ((B24.kp e2).t0) (TDs.one (TD.tup (by rw [upd_ne n1, upd_same]) (tds1.tu e2.tu))))
    have B25 := (B24.kp e2).aT tnet
    have k25 := k24.trans e2
    have hrd25 := e2.at_ hrd (by simpa using rdp)
    have hdds25 := hdds.tu e2.tu
    have hpl25 := e2.at_ hpl24 (by simpa using plp)
    obtain ⟨H25, e25⟩ : ∃ Z : Hp, Z = upd (upd (upd H24 s1 (.lst ys1)) st1 (.tup ys1)) nt (.tup [.ref pl, .ref st1]) := ⟨_, rfl⟩
    dsimp only [gName]
    rw [← e25] at B25 k25 P25 hrd25 hdds25 hpl25 ⊢
    clear tnet B24 k24 e1 e2 n1 tds1 hrd hdds
    have tints2 : ∀ (ns : List Nat) (H : Hp), TDs H (nsV ns) (ns.map fun n => PyData.int (n : Nat)) := fun ns H => by
      induction ns with
      | nil => exact .nil
      | cons a r ih => exact .cons (.int a) ih
    -- the line of places
    refine ⟨⟨_, rfl⟩, (by show 1 ≤ sizeLine; decide), fun x1 fx1 => ?_⟩
    have d1 := (Kp.refl [p] H25).new fx1 (.lst [.str "places"])
    refine ⟨_, rfl, pl, rfl, ⟨_, SqT.of (d1.at_ hpl25 (by simpa using plp))⟩, fun D1 fD1 => ?_⟩
    refine lc_tds nmX fD1 (d1.at_ hpl25 (by simpa using plp)) (tints2 ps _) (by rw [List.length_map, sizeLine_eq]; omega) (fun d v H2 Kc hm td kH hK => ?_) (fun H26 k26 hD26 => ?_) (fun v H Q Q' h q => h _ _ q)
    · obtain ⟨n, hn, rfl⟩ := List.mem_map.mp hm
      cases td
      exact ⟨rfl, _, rfl, _, rfl, log10 (hpb n hn), hK H2 (Kp.refl [] H2)⟩
    have ef : (ps.map fun n => PyData.int (n : Nat)).map nmX = ps.map numS := by
      rw [List.map_map]
      rfl
    rw [ef] at hD26
    have lp : ∀ x ∈ ("places" :: ps.map numS : List Str), x.length ≤ 7 := fun x hx => by
      rcases List.mem_cons.mp hx with rfl | hx
      · decide
      · obtain ⟨n, hn, rfl⟩ := List.mem_map.mp hx
        exact numS_len (hpb n hn)
    have hx26 : H26 x1 = some (.lst [.str "places"]) := k26.at0 upd_same
    refine ⟨x1, D1, [.str "places"], _, rfl, rfl, hx26, hD26, (by rw [List.length_map, List.length_map, sizeLine_eq]; show 1 + _ ≤ _; omega), fun x2 fx2 => ?_⟩
    refine ⟨" ", x2, "places" :: ps.map numS, rfl, rfl, .inl (SqL.of upd_same), join_ok (sep := " ") (n := 7) (m := 65) lp (by rw [List.length_cons, List.length_map]; omega), ?_⟩
    refine ⟨(by show 1 ≤ sizeLine; decide), fun rw1 frw1 => ?_⟩
    have d2 := ((d1.trans k26.any).new fx2 (.lst ([V.str "places"] ++ (ps.map numS).map V.str))).new frw1 (.lst [.str (placesX ps)])
    have P27 := ((((P25.new fx1 (.lst [.str "places"])).kp k26).new fx2 (.lst ([V.str "places"] ++ (ps.map numS).map V.str)))).new frw1 (.lst [.str (placesX ps)])
    have rwp := ((((P25.new fx1 (.lst [.str "places"])).kp k26).new fx2 (.lst ([V.str "places"] ++ (ps.map numS).map V.str)))).ne frw1
    have B27 := B25.kp d2
    have k27 := k25.trans d2
    have hrd27 := d2.at_ hrd25 (by simpa using rdp)
    have hdds27 := hdds25.tu d2.tu
    have hpl27 := d2.at_ hpl25 (by simpa using plp)
    obtain ⟨H27, e27⟩ : ∃ Z : Hp, Z = upd (upd H26 x2 (.lst ([V.str "places"] ++ (ps.map numS).map V.str))) rw1 (.lst [.str (placesX ps)]) := ⟨_, rfl⟩
    have hrw27 : H27 rw1 = some (.lst [.str (placesX ps)]) := by rw [e27, upd_same]
    dsimp only [gName]
    rw [← e27] at B27 k27 P27 hrd27 hdds27 hpl27
    refine gen_H e27.symm ?_
    clear B25 k25 P25 hrd25 hdds25 hpl25 d1 d2 k26 hD26 hx26
    -- the lines of roads
    refine ⟨_, rfl, _, rfl, rd, dus, dds, rfl, SqL.of hrd27, hdds27, road_alike dR, road_sortable dR, road_depth dR, fun s2 ys2 tds2 fs2 => ⟨s2, rfl, ⟨_, SqL.of upd_same⟩, fun D2 fD2 => ?_⟩⟩
    have sdm : ∀ d ∈ sortD dds, RoadOk ps d := fun d hd => hdok d ((List.mergeSort_perm dds _).mem_iff.mp hd)
    have sdl : (sortD dds).length = dds.length := (List.mergeSort_perm dds _).length_eq
    refine lc_tdl roadX fD2 upd_same (tds2.tu (Tu.new fs2)) (by show (sortD dds).length < _; rw [sizeLine_eq, sdl]; omega) (fun d v H28 Kc hm td kH hK => ?_) (fun H28 k28 hD28 => ?_) (fun v H Q Q' h q => h _ _ q)
    · have rok := sdm d hm
      have rlen := road_len rok hpb
      obtain ⟨l, a, b, c, g1, g2, g3, g4, rfl⟩ := rok
      obtain ⟨t1, us1, rfl, ht1, hus1⟩ := td.tupl
      cases hus1 with
      | cons a0 ar =>
        cases a0
        cases ar with
        | cons a1 ar =>
          cases a1
          cases ar with
          | cons a2 ar =>
            cases a2
            cases ar with
            | cons a3 ar =>
              cases a3
              cases ar
              refine ⟨rfl, ⟨_, rfl⟩, _, rfl, t1, _, 0, .str l, rfl, rfl, SqT.of ht1, atI_nat (j := 0) rfl, (by show 2 ≤ sizeLine; decide), fun x1 fx1 => ?_⟩
              have d1 := (Kp.refl [] H28).new fx1 (.lst [.str "road", .str l])
              refine ⟨_, rfl, _, rfl, t1, _, rfl, SqT.of (d1.at0 ht1), (fun z => absurd (show HT.sIx 4 0 (some 1) = 0 from z.1) (by decide)), fun _ q1 fq1 => ?_⟩
              have d2 := d1.new fq1 (.tup [.int a, .int b, .int c])
              refine ⟨q1, rfl, ⟨_, SqT.of upd_same⟩, fun D3 fD3 => ?_⟩
              refine lc_tds (us := [.int a, .int b, .int c]) (ds := [.int a, .int b, .int c]) nmX fD3 upd_same (.cons (.int _) (.cons (.int _) (TDs.one (.int _)))) (by show 3 < sizeLine; decide) (fun d v H29 Kc hm td kH hK => ?_) (fun H29 k29 hD29 => ?_) (fun v H Q Q' h q => h _ _ q)
              · have hd : ∃ n : Nat, n ≤ 1000000 ∧ d = .int n := by
                  simp only [List.mem_cons, List.not_mem_nil, or_false] at hm
                  rcases hm with rfl | rfl | rfl
                  · exact ⟨a, hpb a g2, rfl⟩
                  · exact ⟨b, hpb b g3, rfl⟩
                  · exact ⟨c, g4, rfl⟩
                obtain ⟨n, hn, rfl⟩ := hd
                cases td
                exact ⟨rfl, _, rfl, .inl ⟨_, rfl, log10 hn, hK H29 (Kp.refl [] H29)⟩⟩
              have k30 := d2.trans k29
              have hx1 : H29 x1 = some (.lst [.str "road", .str l]) := k29.at0 (by rw [upd_ne (ne_of_none upd_same fq1), upd_same])
              refine ⟨x1, D3, _, _, rfl, rfl, hx1, hD29, (by show 2 + 3 ≤ sizeLine; decide), fun x2 fx2 => ?_⟩
              refine ⟨" ", x2, ["road", l, numS a, numS b, numS c], rfl, rfl, .inl (SqL.of upd_same), join_ok (sep := " ") (n := 7) (m := 5) (fun x hx => ?_) (by show 5 ≤ 5; decide), ?_⟩
              · simp only [List.mem_cons, List.not_mem_nil, or_false] at hx
                rcases hx with rfl | rfl | rfl | rfl | rfl
                · decide
                · exact Nat.le_trans (Lts_len g1) (by decide)
                · exact numS_len (hpb a g2)
                · exact numS_len (hpb b g3)
                · exact numS_len g4
              rw [road_join]
              exact hK _ (k30.new fx2 _)
    have d3 := ((Kp.refl [] H27).new fs2 (.lst ys2)).trans k28
    have hrw28 := d3.at0 hrw27
    refine ⟨rw1, D2, _, _, rfl, rfl, hrw28, hD28, (by rw [List.length_map, List.length_map, show (dds.mergeSort (PySem.W.dataLe false id)).length = dds.length from sdl, sizeLine_eq]; show 1 + _ ≤ _; omega), fun rw2 frw2 => ?_⟩
    have d4 := d3.new frw2 (.lst ([V.str (placesX ps)] ++ ((sortD dds).map roadX).map V.str))
    have B29 := B27.kp d4.any
    have k29 := k27.trans d4.any
    have P29 := P27.kp d4
    have rw2p := (P27.kp d3).ne frw2
    obtain ⟨H29, e29⟩ : ∃ Z : Hp, Z = upd H28 rw2 (.lst ([V.str (placesX ps)] ++ ((sortD dds).map roadX).map V.str)) := ⟨_, rfl⟩
    have hrw29 : H29 rw2 = some (.lst ((placesX ps :: (sortD dds).map roadX).map V.str)) := by rw [e29, upd_same]; rfl
    dsimp only [gName]
    rw [← e29] at B29 k29 P29
    refine gen_H e29.symm ?_
    have B30 := B29.aL rw2p hrw29
    clear B29 B27 k27 P27 d3 d4 hrw28 hD28 k28 hrw27 hrd27 hdds27 hpl27
    -- the steps
    have hrt29 : rt ≠ p ∧ H29 rt = some (.lst rus) := B30.ls (rt, rus) (by simp)
    have tr29 : TDs H29 rus rds := B30.ts (rus, rds) (by simp)
    refine ⟨⟨_, rfl⟩, _, rfl, rt, rfl, ⟨_, SqL.of hrt29.2⟩, fun D4 fD4 => ?_⟩
    refine lc_tdl stepX fD4 hrt29.2 tr29 (by rw [sizeLine_eq]; omega) (fun d v H30 Kc hm td kH hK => ?_) (fun H30 k30 hD30 => ?_) (fun v H Q Q' h q => h _ _ q)
    · obtain ⟨a, b, e, ha, hb, he, rfl⟩ := hrok d hm
      obtain ⟨t1, us1, rfl, ht1, hus1⟩ := td.tupl
      refine ⟨rfl, ⟨_, rfl⟩, _, rfl, t1, rfl, ⟨_, SqT.of ht1⟩, fun D5 fD5 => ?_⟩
      have ln : (nmX e).length ≤ 8 := by rcases he with rfl | rfl | rfl | rfl | rfl | rfl <;> decide
      refine lc_tds nmX fD5 ht1 hus1 (by show 3 < sizeLine; decide) (fun d v H31 Kc hm td kH hK => ?_) (fun H31 k31 hD31 => ?_) (fun v H Q Q' h q => h _ _ q)
      · have hd : (∃ n : Nat, n ≤ 1000000 ∧ d = .int n) ∨ ∃ x, d = .str x := by
          simp only [List.mem_cons, List.not_mem_nil, or_false] at hm
          rcases hm with rfl | rfl | rfl
          · exact .inl ⟨a, by omega, rfl⟩
          · exact .inl ⟨b, by omega, rfl⟩
          · rcases he with rfl | rfl | rfl | rfl | rfl | rfl
            · exact .inr ⟨_, rfl⟩
            · exact .inr ⟨_, rfl⟩
            · exact .inr ⟨_, rfl⟩
            · exact .inl ⟨0, by omega, rfl⟩
            · exact .inl ⟨7, by omega, rfl⟩
            · exact .inl ⟨9999, by omega, rfl⟩
        rcases hd with ⟨n, hn, rfl⟩ | ⟨x, rfl⟩
        · cases td
          exact ⟨rfl, _, rfl, .inl ⟨_, rfl, log10 hn, hK H31 (Kp.refl [] H31)⟩⟩
        · cases td
          exact ⟨rfl, _, rfl, .inr ⟨_, rfl, hK H31 (Kp.refl [] H31)⟩⟩
      refine ⟨" ", D5, [numS a, numS b, nmX e], rfl, rfl, .inl (SqL.of hD31), join_ok (sep := " ") (n := 8) (m := 3) (fun x hx => ?_) (by show 3 ≤ 3; decide), ?_⟩
      · simp only [List.mem_cons, List.not_mem_nil, or_false] at hx
        rcases hx with rfl | rfl | rfl
        · exact Nat.le_trans (numS_len (n := a) (by omega)) (by decide)
        · exact Nat.le_trans (numS_len (n := b) (by omega)) (by decide)
        · exact ln
      rw [step_join]
      exact hK _ k31
    refine ⟨", ", D4, _, rfl, rfl, .inl (SqL.of hD30), join_ok (sep := ", ") (n := 30) (m := 60) (fun x hx => by
      obtain ⟨n, hn, rfl⟩ := List.mem_map.mp hx
      exact step_len (hrok n hn)) (by rw [List.length_map]; exact hrlen), ?_⟩
    have B31 := B30.kp k30.any
    have k31 := k29.trans k30.any
    have P31 := P29.kp k30
    clear B30 k29 P29 hD30 hrt29 tr29 hrw29 k30
    dsimp only [gName]
    -- told: rule, word, route
    refine ⟨_, rfl, _, rfl, vr, dr, rfl, B31.td (vr, dr) (by simp), okr.1, by omega, fun H32 k32 => ⟨(by show 3 ≤ sizeLine; decide), fun a1 fa1 => ?_⟩⟩
    have z1 := k32.new fa1 (.tup [.str "rule", vr, .str (ruleX 4 dr)])
    obtain ⟨vw', wus, ew, hw1, hw2⟩ := ((B31.kp z1.any).td (.ref vw, tupS wls) (by simp)).tupl
    cases ew
    have hw3 := hw2.strs2
    subst hw3
    refine ⟨_, rfl, ⟨_, rfl⟩, _, rfl, " ", vw, wls, rfl, rfl, .inr (SqT.of hw1), join_ok (sep := " ") (n := 4) (m := 30) (fun x hx => Lts_len (hwls x hx)) hwlen, (by show 3 ≤ sizeLine; decide), fun a2 fa2 => ?_⟩
    have z2 := z1.new fa2 (.tup [.str "word", .ref vw, .str (wordX wls)])
    have hrt3 : rt ≠ p ∧ _ = some (HO.lst rus) := (B31.kp z2.any).ls (rt, rus) (by simp)
    refine ⟨_, rfl, rt, rus, rfl, .inl ⟨SqL.of hrt3.2, fun rv frv => ⟨_, rfl, (by show 3 ≤ sizeLine; decide), fun a3 fa3 => ⟨(by show 3 ≤ sizeLine; decide), fun t1 ft1 => ?_⟩⟩⟩⟩
    have y2 := (Kp.refl [] _).new fa2 (.tup [.str "word", .ref vw, .str (wordX wls)])
    have y3 := (Kp.refl [] _).new frv (.tup rus)
    have y4 := (Kp.refl [] _).new fa3 (.tup [.str "route", .ref rv, .str (routeX rds)])
    have y5 := (Kp.refl [] _).new ft1 (.lst [.ref a1, .ref a2, .ref a3])
    have y45 := y4.trans y5
    have y35 := y3.trans y45
    have y25 := y2.trans y35
    obtain ⟨H33, e33⟩ : ∃ Z : Hp, Z = upd (upd (upd (upd (upd H32 a1 (.tup [.str "rule", vr, .str (ruleX 4 dr)])) a2 (.tup [.str "word", .ref vw, .str (wordX wls)])) rv (.tup rus)) a3 (.tup [.str "route", .ref rv, .str (routeX rds)])) t1 (.lst [.ref a1, .ref a2, .ref a3]) := ⟨_, rfl⟩
    have z5 : Kp [] H30 H33 := by
      rw [e33]
      exact z1.trans y25
    have T1 : ThA (upd H32 a1 (.tup [.str "rule", vr, .str (ruleX 4 dr)])) a1 (.rule dr) := ⟨vr, upd_same, (B31.kp z1.any).td (vr, dr) (by simp)⟩
    have T2 := (show ThA _ a2 (.word wls) from ⟨.ref vw, (show upd (upd H32 a1 (.tup [.str "rule", vr, .str (ruleX 4 dr)])) a2 (.tup [.str "word", .ref vw, .str (wordX wls)]) a2 = some (.tup [.str "word", .ref vw, .str (wordX wls)]) from upd_same), (B31.kp z2.any).td (.ref vw, tupS wls) (by simp)⟩)
    have trds := (B31.kp (z2.trans (y3.trans y4)).any).ts (rus, rds) (by simp)
    have nrv : rv ≠ a3 := ne_of_none upd_same fa3
    have T3 := (show ThA _ a3 (.route rds) from ⟨.ref rv, (show upd (upd (upd (upd H32 a1 (.tup [.str "rule", vr, .str (ruleX 4 dr)])) a2 (.tup [.str "word", .ref vw, .str (wordX wls)])) rv (.tup rus)) a3 (.tup [.str "route", .ref rv, .str (routeX rds)]) a3 = some (.tup [.str "route", .ref rv, .str (routeX rds)]) from upd_same), TD.tup (by rw [upd_ne nrv, upd_same]) trds⟩)
    have told1 : ∀ a ∈ [a1, a2, a3], ∃ t : Th, t.ok ∧ ThA H33 a t := fun a ha => by
      rw [e33]
      simp only [List.mem_cons, List.not_mem_nil, or_false] at ha
      rcases ha with rfl | rfl | rfl
      · exact ⟨.rule dr, okr, T1.kR y25⟩
      · exact ⟨.word wls, ⟨hwls, hwlen⟩, T2.kR y35⟩
      · exact ⟨.route rds, ⟨hrok, hrlen⟩, T3.kR y5⟩
    have B33 := B31.kp z5.any
    have P33 := P31.kp z5
    have k33 := k31.trans z5.any
    have ht33 : H33 t1 = some (.lst [.ref a1, .ref a2, .ref a3]) := by rw [e33, upd_same]
    dsimp only [gName]
    refine gen_H e33.symm ?_
    clear T1 T2 T3 trds y2 y3 y4 y5 y45 y35 y25 z1 z2 z5 B31 P31 k31 hrt3 hw1 hw2
    -- told: positions, net
    obtain ⟨vs', sus, es, hs1, hs2⟩ := (B33.td (.ref vs, tupI sns) (by simp)).tupl
    cases es
    refine ⟨_, rfl, _, rfl, ⟨_, rfl⟩, _, rfl, vs, rfl, ⟨_, SqT.of hs1⟩, fun D6 fD6 => ?_⟩
    refine lc_tds nmX fD6 hs1 hs2 (by rw [List.length_map, sizeLine_eq]; omega) (fun d v H34 Kc hm td kH hK => ?_) (fun H34 k34 hD34 => ?_) (fun v H Q Q' h q => h _ _ q)
    · obtain ⟨n, hn, rfl⟩ := List.mem_map.mp hm
      cases td
      exact ⟨rfl, _, rfl, _, rfl, log10 (by have := hsns n hn; omega), hK H34 (Kp.refl [] H34)⟩
    have efs : (sns.map fun n => PyData.int (n : Nat)).map nmX = sns.map numS := by
      rw [List.map_map]
      rfl
    rw [efs] at hD34
    refine ⟨" ", D6, sns.map numS, rfl, rfl, .inl (SqL.of hD34), join_ok (sep := " ") (n := 7) (m := 30) (fun x hx => by
      obtain ⟨n, hn, rfl⟩ := List.mem_map.mp hx
      exact numS_len (by have := hsns n hn; omega)) (by rw [List.length_map]; exact hslen), (by show 3 ≤ sizeLine; decide), fun a4 fa4 => ?_⟩
    have z4 := k34.new fa4 (.tup [.str "positions", .ref vs, .str (posX sns)])
    have hrw4 : rw2 ≠ p ∧ _ = some (HO.lst ((placesX ps :: (sortD dds).map roadX).map V.str)) := (B33.kp z4.any).ls (rw2, (placesX ps :: (sortD dds).map roadX).map V.str) (by simp)
    refine ⟨_, rfl, ⟨_, rfl⟩, _, rfl, "\n", rw2, _, rfl, rfl, .inl (SqL.of hrw4.2), join_ok (sep := "\n") (n := 600) (m := 201) (fun x hx => ?_) (by rw [List.length_cons, List.length_map, sdl]; omega), (by show 3 ≤ sizeLine; decide), fun a5 fa5 => ⟨(by show 2 ≤ sizeLine; decide), fun t2 ft2 => ?_⟩⟩
    · rcases List.mem_cons.mp hx with rfl | hx
      · have l1 := len_join (sep := " ") lp
        replace l1 : (placesX ps).length ≤ (ps.map numS).length.succ * 8 := l1
        rw [List.length_map] at l1
        have : ps.length.succ * 8 ≤ 65 * 8 := Nat.mul_le_mul_right _ (by omega)
        omega
      · obtain ⟨d, hd, rfl⟩ := List.mem_map.mp hx
        have := road_len (sdm d hd) hpb
        omega
    have y5 := (Kp.refl [] _).new fa5 (.tup [.str "net", .ref nt, .str (netX ps (sortD dds))])
    have y6 := (Kp.refl [] _).new ft2 (.lst [.ref a4, .ref a5])
    have ht6 := (z4.trans (y5.trans y6)).at0 ht33
    refine ⟨t1, t2, _, _, rfl, rfl, ht6, upd_same, (by show 3 + 2 ≤ sizeLine; decide), fun t3 ft3 => ?_⟩
    have y7 := (Kp.refl [] _).new ft3 (.lst [.ref a1, .ref a2, .ref a3, .ref a4, .ref a5])
    have y67 := y6.trans y7
    have y57 := y5.trans y67
    obtain ⟨H36, e36⟩ : ∃ Z : Hp, Z = upd (upd (upd (upd H34 a4 (.tup [.str "positions", .ref vs, .str (posX sns)])) a5 (.tup [.str "net", .ref nt, .str (netX ps (sortD dds))])) t2 (.lst [.ref a4, .ref a5])) t3 (.lst [.ref a1, .ref a2, .ref a3, .ref a4, .ref a5]) := ⟨_, rfl⟩
    have z7 : Kp [] H33 H36 := by
      rw [e36]
      exact z4.trans y57
    have hsrt : sortD (sortD dds) = sortD dds := List.mergeSort_of_pairwise (sortD_pw dds)
    have T4 := (show ThA _ a4 (.pos sns) from ⟨.ref vs, (show upd H34 a4 (.tup [.str "positions", .ref vs, .str (posX sns)]) a4 = some (.tup [.str "positions", .ref vs, .str (posX sns)]) from upd_same), (B33.kp z4.any).td (.ref vs, tupI sns) (by simp)⟩)
    have T5 := (show ThA _ a5 (.net ps (sortD dds)) from ⟨.ref nt, (show upd (upd H34 a4 (.tup [.str "positions", .ref vs, .str (posX sns)])) a5 (.tup [.str "net", .ref nt, .str (netX ps (sortD dds))]) a5 = some (.tup [.str "net", .ref nt, .str (netX ps (sortD dds))]) from upd_same), (B33.kp (z4.trans y5).any).td (.ref nt, .tuple [tupI ps, .tuple (sortD dds)]) (by simp)⟩)
    have told2 : ∀ a ∈ [a1, a2, a3, a4, a5], ∃ t : Th, t.ok ∧ ThA H36 a t := fun a ha => by
      rw [show [a1, a2, a3, a4, a5] = [a1, a2, a3] ++ [a4, a5] from rfl] at ha
      rcases List.mem_append.mp ha with ha | ha
      · obtain ⟨t, h1, h2⟩ := told1 a ha
        exact ⟨t, h1, h2.kR z7⟩
      · rw [e36]
        simp only [List.mem_cons, List.not_mem_nil, or_false] at ha
        rcases ha with rfl | rfl
        · exact ⟨.pos sns, ⟨hsns, hslen⟩, T4.kR y57⟩
        · exact ⟨.net ps (sortD dds), ⟨hpb, hpp, by omega, sdm, by omega, hsrt⟩, T5.kR y67⟩
    have B36 := B33.kp z7.any
    have P36 := P33.kp z7
    have k36 := k33.trans z7.any
    have ht36 : H36 t3 = some (.lst [.ref a1, .ref a2, .ref a3, .ref a4, .ref a5]) := by rw [e36, upd_same]
    dsimp only [gName]
    refine gen_H e36.symm ?_
    clear T4 T5 y5 y6 y7 y67 y57 z4 z7 B33 P33 k33 hrw4 hs1 hs2 told1 ht33 ht6
    -- told: the book
    obtain ⟨hbk, hkd⟩ := B36.dk (bk, kvs, nds) (by simp)
    replace hbk : H36 bk = some (.dK kvs) := hbk
    replace hkd : KD H36 kvs nds := hkd
    refine ⟨_, rfl, _, rfl, ⟨_, rfl⟩, bk, .dK kvs, hbk, by simp [Mut], fun od => ⟨_, rfl, bk, od, rfl, .inl ⟨kvs, upd_same, fun D7 fD7 => ?_⟩⟩⟩
    have tu7 : Tu H36 (upd H36 bk (.frz od (.dK kvs))) := fun b xs e => by rw [upd_ne (ne_of e hbk (by simp))]; exact e
    obtain ⟨H37, e37⟩ : ∃ Z : Hp, Z = upd H36 bk (.frz od (.dK kvs)) := ⟨_, rfl⟩
    rw [← e37] at tu7 fD7 ⊢
    have hbk7 : H37 bk = some (.frz od (.dK kvs)) := by rw [e37, upd_same]
    have hkd7 := hkd.tu tu7
    have hkl := hkd.len
    obtain ⟨bok1, bok2, bok3⟩ := hnok
    refine lc_by nds.length (fun i H => Kp [] H37 H ∧ H D7 = some (.lst (((nds.take i).map bookL).map V.str))) ⟨(Kp.refl [] H37).new fD7 _, upd_same⟩ (fun i H hi hP => ?_) (fun H hP => ?_) (fun i v H H' hi hP hy => ?_) (fun H38 hP => ?_)
    · exact ⟨hP.1.at0 hbk7, by omega⟩
    · exact ⟨hP.1.at0 hbk7, by omega⟩
    · obtain ⟨hk, hd1⟩ := hP
      obtain ⟨rfl, k, v', e1, rfl⟩ := hy
      obtain ⟨n, d, hkn, e2, td⟩ := hkd7.at_ e1
      replace hkn : k = .inr n := hkn
      subst hkn
      replace td : TD H37 v' d := td
      have hm : (n, d) ∈ nds := List.mem_of_getElem? e2
      obtain ⟨hn, hr4, _⟩ := bok1 _ hm
      replace hn : n.length ≤ 8 := nms_len hn
      replace hr4 : RK 4 d := hr4
      have hB := bookL_len (q := (n, d)) ⟨hn, hr4⟩
      have lr := ruleX_len hr4
      have lr4 := rB_le (k := 4) (by omega)
      have z1 : (((nds.take i).map bookL).map V.str).length < sizeLine := by
        rw [List.length_map, List.length_map, List.length_take, sizeLine_eq]
        omega
      have z2 : ((nds.take i).map bookL).map V.str ++ [V.str (bookL (n, d))] = ((nds.take (i + 1)).map bookL).map V.str := by
        rw [List.take_succ, e2]
        simp
      have hval : some v' = valV kvs (.inr n) := (valV_at e1 (by rw [hkd.keys]; exact nodup_inr bok2)).symm
      refine ⟨rfl, _, rfl, _, _, rfl, rfl, le17 (by show _ + 3 ≤ _; omega), _, rfl, _, rfl, bk, v', rfl, .inl ⟨kvs, .inr n, .inr ⟨od, hk.at0 hbk7⟩, rfl, hval⟩, v', d, rfl, td.tu hk.tu, hr4, by omega, fun H39 k39 => ⟨_, _, rfl, rfl, ?_, ?_⟩⟩
      · rw [Str.length_append]
        exact le17 (by show _ + 3 + _ ≤ _; omega)
      · exact ⟨_, k39.at0 hd1, z1, (hk.trans k39).upN fD7 _, by rw [upd_same]; exact congrArg (fun z => some (HO.lst z)) z2⟩
    · obtain ⟨hk, hd1⟩ := hP
      rw [List.take_of_length_le (Nat.le_refl _)] at hd1
      have kU : Kp [] H36 (upd H38 bk (.dK kvs)) := by
        rw [e37] at hk
        exact hk.unlock hbk
      have hd2 : upd H38 bk (.dK kvs) D7 = some (.lst ((nds.map bookL).map V.str)) := by
        rw [upd_ne (Ne.symm (ne_of_none hbk7 fD7))]
        exact hd1
      refine ⟨hk.at0 hbk7, "\n", D7, nds.map bookL, rfl, rfl, .inl (SqL.of hd2), join_ok (sep := "\n") (n := 851) (m := 8) (fun x hx => by
        obtain ⟨n, hn, rfl⟩ := List.mem_map.mp hx
        exact bookL_len ⟨nms_len (bok1 n hn).1, (bok1 n hn).2.1⟩) (by rw [List.length_map]; exact bok3), (by show 3 ≤ sizeLine; decide), fun a6 fa6 => ⟨(by show 1 ≤ sizeLine; decide), fun t4 ft4 => ?_⟩⟩
      have u1 := kU.new fa6 (.tup [.str "book", .ref bk, .str (bookX nds)])
      have y8 := (Kp.refl [] _).new ft4 (.lst [.ref a6])
      have u2 := u1.trans y8
      refine ⟨t3, t4, _, _, rfl, rfl, u2.at0 ht36, upd_same, (by show 5 + 1 ≤ sizeLine; decide), fun t5 ft5 => ?_⟩
      have y9 := (Kp.refl [] _).new ft5 (.lst [.ref a1, .ref a2, .ref a3, .ref a4, .ref a5, .ref a6])
      have u3 := u2.trans y9
      have T6 := (show ThA _ a6 (.book nds) from ⟨.ref bk, (show upd (upd H38 bk (.dK kvs)) a6 (.tup [.str "book", .ref bk, .str (bookX nds)]) a6 = some (.tup [.str "book", .ref bk, .str (bookX nds)]) from upd_same), bk, kvs, rfl, (B36.kp u1.any).dk (bk, kvs, nds) (by simp)⟩)
      refine q _ t5 [a1, a2, a3, a4, a5, a6] (k36.trans u3.any) (P36.kp u3) ((P36.kp u2).ne ft5) upd_same fun a ha => ?_
      rw [show [a1, a2, a3, a4, a5, a6] = [a1, a2, a3, a4, a5] ++ [a6] from rfl] at ha
      rcases List.mem_append.mp ha with ha | ha
      · obtain ⟨t, h1, h2⟩ := told2 a ha
        exact ⟨t, h1, h2.kR u3⟩
      · rw [List.mem_singleton.mp ha]
        exact ⟨.book nds, ⟨bok1, bok2, bok3⟩, T6.kR (y8.trans y9)⟩
  refine ⟨_, rfl, Nat.zero_le _, fun te fte => ?_⟩
  have hrd22 : upd (upd H20 rd (.lst [])) te (.tup []) rd = some (.lst []) := by
    rw [upd_ne (ne_of_none upd_same fte), upd_same]
  have k22 := k21.new fte (.tup [])
  have P22 := P21.new fte (.tup [])
  refine ⟨tupI ps, .tuple [], (TD.tup (k22.at_ hpl20 (by simpa using plp)) (((tints ps).tu k22.tu))).dp, (TD.tup upd_same .nil).dp, shaped_ints ps, rfl, _, rfl, ite2 (fun z => ?_) (fun z => ?_)⟩
  · have hne : ps ≠ [] := fun e => by
      rw [eqv_nil, e] at z
      cases z
    refine ⟨_, rfl, p, c, 6, rfl, P22, by decide, by decide, fun H23 n23 k23 P23 hn23 => ⟨_, rfl, by omega, by omega, ?_⟩⟩
    refine for_by (n23 : Int).toNat (fun i σ H => ∃ (us : List V) (ds : List PyData) (e5 e12 : Option V), σ = [some (.ref p), some (.ref l2), some vr, some (.ref vw), some (.ref rt), e5, e6, some (.ref vs), some (.ref nl), some (.ref bk), some (.ref pl), some (.ref rd), e12, none, none, none, none, none, none, none, none, none] ∧ Kp [p] H20 H ∧ PotOk H p c ∧ H rd = some (.lst us) ∧ TDs H us ds ∧ ds.length = i ∧ ∀ d ∈ ds, RoadOk ps d)
      ⟨[], [], e5, none, rfl, k22.trans k23, P23, k23.at_ hrd22 (by simpa using rdp), .nil, rfl, fun _ z => by simp at z⟩ (fun i σ H6 hi _ => hi) (fun σ H6 _ => Nat.le_refl _) (fun t v σ H24 H25 hi hP hy => ?_) (fun σ H24 hP => ?_)
    · obtain ⟨us, ds, e5, e12, rfl, kk, PP, hrd, hds, hln, hok⟩ := hP
      obtain ⟨rfl, rfl⟩ := hy
      have hpl24 := kk.at_ hpl20 (by simpa using plp)
      have npl : (nsV ps) ≠ [] := by simpa [nsV] using hne
      have lpl : (nsV ps).length < 2 ^ 29 := by
        rw [nsV, List.length_map]
        omega
      refine ⟨_, rfl, _, rfl, p, c, pl, nsV ps, rfl, PP, plp, .inr hpl24, npl, lpl, fun H26 v26 k26 P26 hv26 => ?_⟩
      obtain ⟨a26, ha26, rfl⟩ := mem_nsV hv26
      refine ⟨_, rfl, _, rfl, p, c, pl, nsV ps, rfl, P26, plp, .inr (k26.at_ hpl24 (by simpa using plp)), npl, lpl, fun H27 v27 k27 P27 hv27 => ?_⟩
      obtain ⟨a27, ha27, rfl⟩ := mem_nsV hv27
      refine ⟨(by show 2 ≤ sizeLine; decide), fun t1 ft1 => ?_⟩
      have kA := (k26.trans k27).new ft1 (.tup [.int a26, .int a27])
      have PA' := P27.new ft1 (.tup [.int a26, .int a27])
      have hT1 : upd H27 t1 (.tup [.int a26, .int a27]) t1 = some (.tup [.int a26, .int a27]) := upd_same
      obtain ⟨lp, ls, q1, q2, q3, q4⟩ := L20.kp (kk.trans kA)
      refine ⟨_, rfl, .inl ⟨rfl, _, SqL.of (kA.at_ hrd (by simpa using rdp))⟩, _, rfl, _, rfl, p, c, l2, ls.map V.str, rfl, PA', lp, .inl q1, by simpa using q2, by rw [List.length_map]; omega, fun H28 v28 k28 P28 hv28 => ?_⟩
      obtain ⟨x28, hx28, rfl⟩ := List.mem_map.mp hv28
      refine ⟨(by show 1 ≤ sizeLine; decide), fun t2 ft2 => ?_⟩
      have kB := (kA.trans k28).new ft2 (.tup [.str x28])
      have kB2 := k28.new ft2 (.tup [.str x28])
      refine ⟨_, rfl, t2, t1, _, _, rfl, rfl, SqT.of upd_same, SqT.of (kB2.tu _ _ hT1), (by show 1 + 2 ≤ sizeLine; decide), (fun z => nomatch z), (fun _ z => nomatch z), fun _ _ t3 ft3 => ?_⟩
      have kC := kB.new ft3 (.tup [.str x28, .int a26, .int a27])
      have PC := (P28.new ft2 (.tup [.str x28])).new ft3 (.tup [.str x28, .int a26, .int a27])
      refine ⟨_, rfl, _, _, rfl, rfl, (by unfold CPow; decide), (by show 3 ≤ sizeLine; decide), fun q29 fq29 => ⟨p, c, q29, nsV [0, 5, 1000000], rfl, PC.new fq29 _, PC.ne fq29, .inl upd_same, by simp [nsV], by decide, fun H29 v29 k29 P29 hv29 => ?_⟩⟩
      obtain ⟨m29, hm29, _, rfl⟩ := int_of (b := 1000000) hv29 (by decide)
      have kD := ((Kp.refl [p] _).new fq29 (.lst (nsV [0, 5, 1000000]))).trans k29
      have hT3 := kD.tu _ _ (show upd (upd H28 t2 (.tup [.str x28])) t3 (.tup [.str x28, .int a26, .int a27]) t3 = some (.tup [.str x28, .int a26, .int a27]) from upd_same)
      refine ⟨(by show 1 ≤ sizeLine; decide), fun t4 ft4 => ?_⟩
      refine ⟨t3, t4, _, _, rfl, rfl, SqT.of ((Tu.new (o := .tup [.int m29]) ft4) _ _ hT3), SqT.of upd_same, (by show 3 + 1 ≤ sizeLine; decide), (fun z => nomatch z), (fun _ z => nomatch z), fun _ _ t5 ft5 => ?_⟩
      have kE := ((kC.trans kD).new ft4 (.tup [.int m29])).new ft5 (.tup [.str x28, .int a26, .int a27, .int m29])
      have PE := (P29.new ft4 (.tup [.int m29])).new ft5 (.tup [.str x28, .int a26, .int a27, .int m29])
      have hrd5 := kE.at_ hrd (by simpa using rdp)
      obtain ⟨g1, g2, g3, g4⟩ := grow frd P20 (kk.trans kE) PE hrd5 (hds.tu kE.tu) (TDs.one (TD.tup (a := t5) upd_same (.cons (.str x28) (.cons (.int a26) (.cons (.int a27) (TDs.one (.int m29)))))))
      have hl : us.length = ds.length := hds.len
      refine ⟨rd, us, .ref t5, rfl, rfl, hrd5, by rw [sizeLine_eq]; omega, us ++ [V.ref t5], ds ++ [PyData.tuple [PyData.str x28, PyData.int a26, PyData.int a27, PyData.int m29]], _, _, rfl, g1, g2, g3, g4, by rw [List.length_append, hln]; rfl, fun d hd => ?_⟩
      rcases List.mem_append.mp hd with hd | hd
      · exact hok d hd
      · rw [List.mem_singleton.mp hd]
        exact ⟨x28, a26, a27, m29, q4 x28 hx28, ha26, ha27, hm29, rfl⟩
    · obtain ⟨us, ds, e5, e12, rfl, kk, PP, hrd, hds, hln, hok⟩ := hP
      exact after H24 us ds e5 e12 kk PP hrd hds (by omega) hok
  · refine ⟨0, rfl, by decide, by decide, ?_⟩
    refine for_by 0 (fun i σ H => σ = [some (.ref p), some (.ref l2), some vr, some (.ref vw), some (.ref rt), e5, e6, some (.ref vs), some (.ref nl), some (.ref bk), some (.ref pl), some (.ref rd), none, none, none, none, none, none, none, none, none, none] ∧ H = upd (upd H20 rd (.lst [])) te (.tup []))
      ⟨rfl, rfl⟩ (fun i σ H6 hi _ => absurd hi (Nat.not_lt_zero _)) (fun σ H6 _ => Nat.le_refl _) (fun t v σ H24 H25 hi hP hy => absurd hi (Nat.not_lt_zero _)) (fun σ H24 hP => ?_)
    obtain ⟨rfl, rfl⟩ := hP
    exact after _ [] [] e5 none k22 P22 hrd22 .nil (Nat.zero_le _) (fun _ z => by simp at z)
end
end T65
end
section
/-! Pa: what is read may be shown: its leaves, depth, weight are small. -/
namespace T65
open PySem PySem.W TL
structure Sw (k n : Nat) (d : PyData) : Prop where
  sh : d.showable = true
  lv : d.leavesShort 100 = true
  dp : d.depth ≤ k
  wt : d.weight ≤ n
structure SwL (k n : Nat) (ds : List PyData) : Prop where
  sh : PyData.showableAll ds = true
  lv : PyData.leavesShortAll 100 ds = true
  dp : PyData.depthAll ds ≤ k
  wt : PyData.weightAll ds ≤ n
theorem Sw.mono {k n k' n' : Nat} {d : PyData} (h : Sw k n d) (a : k ≤ k') (b : n ≤ n') : Sw k' n' d := ⟨h.sh, h.lv, Nat.le_trans h.dp a, Nat.le_trans h.wt b⟩
theorem SwL.mono {k n k' n' : Nat} {d : List PyData} (h : SwL k n d) (a : k ≤ k') (b : n ≤ n') : SwL k' n' d := ⟨h.sh, h.lv, Nat.le_trans h.dp a, Nat.le_trans h.wt b⟩
theorem SwL.nil (k n : Nat) : SwL k n [] := ⟨by simp only [PyData.showableAll], by simp only [PyData.leavesShortAll], by simp only [PyData.depthAll]; omega, by simp only [PyData.weightAll]; omega⟩
theorem SwL.cons {k m n : Nat} {d : PyData} {ds : List PyData} (h : Sw k m d) (hs : SwL k n ds) : SwL k (m + 1 + n) (d :: ds) :=
  ⟨by simp only [PyData.showableAll, h.sh, hs.sh, Bool.and_self], by simp only [PyData.leavesShortAll, h.lv, hs.lv, Bool.and_self], by
    simp only [PyData.depthAll]
    exact Nat.max_le.mpr ⟨h.dp, hs.dp⟩, by
    simp only [PyData.weightAll]
    have := h.wt
    have := hs.wt
    omega⟩
theorem SwL.snoc {k m : Nat} {d : PyData} (h : Sw k m d) : ∀ {ds : List PyData} {n : Nat}, SwL k n ds → SwL k (n + m + 1) (ds ++ [d])
  | [], n, hs => (SwL.cons h (SwL.nil k 0)).mono (Nat.le_refl _) (by omega)
  | e :: r, n, hs => by
    have a1 := hs.sh
    have a2 := hs.lv
    have a3 := hs.dp
    have a4 := hs.wt
    simp only [PyData.showableAll, Bool.and_eq_true] at a1
    simp only [PyData.leavesShortAll, Bool.and_eq_true] at a2
    simp only [PyData.depthAll] at a3
    simp only [PyData.weightAll] at a4
    have b3 := Nat.max_le.mp a3
    have ih := SwL.snoc h (ds := r) (n := PyData.weightAll r) ⟨a1.2, a2.2, b3.2, Nat.le_refl _⟩
    rw [List.cons_append]
    exact (SwL.cons (k := k) (m := e.weight) ⟨a1.1, a2.1, b3.1, Nat.le_refl _⟩ ih).mono (Nat.le_refl _) (by omega)
theorem SwL.of {k n : Nat} : ∀ {ds : List PyData}, (∀ d ∈ ds, Sw k n d) → SwL k (ds.length * (n + 1)) ds
  | [], _ => SwL.nil _ _
  | d :: r, h => by
    have ih := SwL.of (ds := r) fun e he => h e (List.mem_cons_of_mem _ he)
    refine (SwL.cons (h d (List.mem_cons_self ..)) ih).mono (Nat.le_refl _) ?_
    rw [List.length_cons, Nat.add_mul]
    omega
theorem Sw.tup {k n : Nat} {ds : List PyData} (h : SwL k n ds) : Sw (k + 1) n (.tuple ds) :=
  ⟨by simp only [PyData.showable, h.sh], by simp only [PyData.leavesShort, h.lv], by
    simp only [PyData.depth]
    have := h.dp
    omega, by
    simp only [PyData.weight]
    exact h.wt⟩
theorem Sw.str {x : Str} (h : ∀ c ∈ tl x, c < 256) : Sw 0 x.length (.str x) :=
  ⟨by simp only [PyData.showable], by
    simp only [PyData.leavesShort]
    refine List.all_eq_true.mpr fun c hc => decide_eq_true ?_
    have := h c hc
    omega, by simp only [PyData.depth]; omega, by
    simp only [PyData.weight]
    exact Nat.le_refl _⟩
theorem Sw.int {n m : Nat} (h : n < 2 ^ m) (hm : m ≤ 30) : Sw 0 m (.int (n : Nat)) := by
  have h30 : n < 2 ^ 30 := Nat.lt_of_lt_of_le h (Nat.pow_le_pow_right (by decide) hm)
  refine ⟨?_, ?_, by simp only [PyData.depth]; omega, ?_⟩
  · simp only [PyData.showable]
    refine decide_eq_true ?_
    rw [Int.natAbs_natCast]
    by_cases z : n = 0
    · rw [z]
      decide
    · exact Nat.lt_trans ((Nat.log2_lt z).mpr h30) (by decide)
  · simp only [PyData.leavesShort]
    refine decide_eq_true ?_
    have e : (PyData.shown (.int (n : Nat))) = Str.ofString (toString ((n : Nat) : Int)) := by simp only [PyData.shown]
    rw [e, len_tl, tl_num]
    exact Nat.le_trans (numL_len (k := 10) (by decide) (by omega)) (by decide)
  · simp only [PyData.weight]
    split
    · omega
    · next z =>
      rw [Int.natAbs_natCast]
      have : n ≠ 0 := fun e => z (by rw [e]; rfl)
      have := (Nat.log2_lt this).mpr h
      omega
/-! ### words -/
theorem nameM_small {x : Str} (h : nameM x = true) : (∀ c ∈ tl x, c < 256) ∧ x.length ≤ 8 := by
  unfold nameM at h
  simp only [Bool.and_eq_true, decide_eq_true_eq] at h
  refine ⟨fun c hc => ?_, h.1.2⟩
  have := (sm_iff c).mp (List.all_eq_true.mp h.2 c hc)
  omega
theorem figsM_small {x : Str} {m n : Nat} (h : figsM x m = some n) : (∀ c ∈ tl x, c < 256) ∧ x.length ≤ 8 := by
  unfold figsM at h
  split at h
  · next z =>
    simp only [Bool.and_eq_true, decide_eq_true_eq] at z
    refine ⟨fun c hc => ?_, z.1.2⟩
    have := (fg_iff c).mp (List.all_eq_true.mp z.2 c hc)
    omega
  · cases h
theorem letterM_small {x : Str} (h : letterM x = true) : (∀ c ∈ tl x, c < 256) ∧ x.length ≤ 17 := by
  unfold letterM at h
  rcases split_at x with ⟨_, _, e⟩ | ⟨a, b, e1, _, e, _⟩
  · rw [e] at h
    simp only [Bool.and_eq_true] at h
    have := nameM_small h.1
    exact ⟨this.1, by omega⟩
  · rw [e] at h
    simp only [Bool.and_eq_true, Bool.or_eq_true] at h
    obtain ⟨h1, h2⟩ := h
    have n1 := nameM_small h1
    rcases h2 with h2 | h2
    · exact absurd h2 (by decide)
    · obtain ⟨n, hn⟩ := Option.isSome_iff_exists.mp h2
      have n2 := figsM_small hn
      refine ⟨fun c hc => ?_, ?_⟩
      · rw [e1] at hc
        rcases List.mem_append.mp hc with hc | hc
        · exact n1.1 c hc
        · rcases List.mem_cons.mp hc with rfl | hc
          · decide
          · exact n2.1 c hc
      · rw [len_tl, e1, List.length_append, List.length_cons, ← len_tl, ← len_tl]
        omega
theorem Sw.letter {x : Str} (h : letterM x = true) : Sw 0 17 (.str x) := (Sw.str (letterM_small h).1).mono (Nat.le_refl _) (letterM_small h).2
theorem kinds_small {x : Str} (h : kinds.contains x = true) : Sw 0 8 (.str x) := by
  have hx : x ∈ kinds := List.contains_iff_mem.mp h
  have all : ∀ y ∈ kinds, (∀ c ∈ tl y, c < 256) ∧ y.length ≤ 8 := by decide +kernel
  exact (Sw.str (all x hx).1).mono (Nat.le_refl _) (all x hx).2
/-! ### rules -/
def Ev {α : Type} (r : Res α) (P : α → PSt → Prop) : Prop := match r with
  | .error c => c < 2 ^ 30
  | .ok (d, s) => P d s
theorem lettersM_sw {T : TkL} (ok : TkOk T) : ∀ {f : Nat} {acc : List Str} {s : PSt} {w : Nat}, SwL 0 w (acc.map .str) → s.l ≤ 12 →
    Ev (lettersM T f acc s) fun ls s' => ∃ m, s'.l = s.l + m ∧ s'.l ≤ 12 ∧ s'.r = s.r ∧ SwL 0 (w + 18 * m) (ls.map .str)
  | 0, _, _, _, _, _ => (by decide : (0 : Nat) < 2 ^ 30)
  | f + 1, acc, s, w, h, hl => by
    unfold lettersM
    split
    · exact ⟨0, rfl, hl, rfl, h⟩
    · split
      · next z =>
        rw [Bool.and_eq_true, decide_eq_true_eq] at z
        have ih := lettersM_sw ok (f := f) (acc := acc ++ [tk T s.p]) (s := ⟨s.p + 1, s.r, s.l + 1⟩) (w := w + 17 + 1) (by
          rw [List.map_append]
          exact SwL.snoc (Sw.letter z.1) h) z.2
        unfold Ev at ih ⊢
        split at ih
        · next e =>
          try rw [e]
          exact ih
        · next e =>
          try rw [e]
          obtain ⟨m, h1, h2, h3, h4⟩ := ih
          exact ⟨m + 1, by rw [h1]; show s.l + 1 + m = _; omega, h2, h3, h4.mono (Nat.le_refl _) (by omega)⟩
      · exact ok.col _
/-- a reader of rules: how many it read pays for the weight -/
def RdSw (k : Nat) (s : PSt) (d : PyData) (s' : PSt) : Prop := ∃ a b n, s'.r = s.r + a ∧ s'.l = s.l + b ∧ s'.r ≤ 20 ∧ s'.l ≤ 12 ∧ n + 1 ≤ 11 * a + 20 * b ∧ Sw k n d
theorem partsM_sw {T : TkL} (ok : TkOk T) {rd : PSt → Res PyData} {k : Nat} (hr : ∀ s : PSt, s.r ≤ 20 → s.l ≤ 12 → Ev (rd s) (RdSw k s)) : ∀ {f : Nat} {acc : List PyData} {s : PSt} {w : Nat}, SwL k w acc → s.r ≤ 20 → s.l ≤ 12 →
    Ev (partsM T rd f acc s) fun ds s' => ∃ a b, s'.r = s.r + a ∧ s'.l = s.l + b ∧ s'.r ≤ 20 ∧ s'.l ≤ 12 ∧ SwL k (w + 11 * a + 20 * b) ds
  | 0, _, _, _, _, _, _ => (by decide : (0 : Nat) < 2 ^ 30)
  | f + 1, acc, s, w, h, h20, h12 => by
    have step : ∀ s1 : PSt, s1.r = s.r → s1.l = s.l → Ev (match rd s1 with
        | .error c => .error c
        | .ok (d, s') => partsM T rd f (acc ++ [d]) s') fun ds s' => ∃ a b, s'.r = s.r + a ∧ s'.l = s.l + b ∧ s'.r ≤ 20 ∧ s'.l ≤ 12 ∧ SwL k (w + 11 * a + 20 * b) ds := fun s1 e1 e2 => by
      have z := hr s1 (by omega) (by omega)
      unfold Ev at z
      split at z
      · next e =>
        try rw [e]
        exact z
      · next d s2 e =>
        try rw [e]
        obtain ⟨a, b, n, q1, q2, q3, q4, q5, q6⟩ := z
        have ih := partsM_sw ok hr (f := f) (acc := acc ++ [d]) (s := s2) (w := w + n + 1) (SwL.snoc q6 h) q3 q4
        show Ev (partsM T rd f (acc ++ [d]) s2) _
        unfold Ev at ih ⊢
        split at ih
        · next e3 =>
          try rw [e3]
          exact ih
        · next e3 =>
          try rw [e3]
          obtain ⟨a2, b2, r1, r2, r3, r4, r5⟩ := ih
          exact ⟨a + a2, b + b2, by omega, by omega, r3, r4, r5.mono (Nat.le_refl _) (by omega)⟩
    unfold partsM
    split
    · exact ⟨0, 0, rfl, rfl, h20, h12, h⟩
    · split
      · exact step s rfl rfl
      · split
        · exact step _ rfl rfl
        · exact ok.col _
theorem ruleM_sw {T : TkL} (ok : TkOk T) : ∀ {k : Nat} {s : PSt}, s.r ≤ 20 → s.l ≤ 12 → Ev (ruleM T k s) (RdSw (2 * k) s)
  | 0, s, _, _ => ok.col _
  | k + 1, s, h20, h12 => by
    unfold ruleM
    split
    · next z =>
      rw [Bool.and_eq_true, decide_eq_true_eq] at z
      split
      · have body : Ev (bodyM T (ruleM T k) (tk T s.p) ⟨s.p + 2, s.r + 1, s.l⟩) fun d s' => ∃ a b, s'.r = s.r + 1 + a ∧ s'.l = s.l + b ∧ s'.r ≤ 20 ∧ s'.l ≤ 12 ∧ Sw (2 * k + 1) (11 * a + 20 * b) d := by
          unfold bodyM
          split
          · have y := lettersM_sw ok (f := T.length) (acc := []) (s := ⟨s.p + 2, s.r + 1, s.l⟩) (w := 0) (SwL.nil _ _) h12
            unfold Ev at y
            split at y
            · next e =>
              try rw [e]
              exact y
            · next ls s2 e =>
              try rw [e]
              obtain ⟨m, q1, q2, q3, q4⟩ := y
              exact ⟨0, m, q3, q1, by rw [q3]; exact z.2, q2, (Sw.tup q4).mono (by omega) (by omega)⟩
          · split
            · have y := ruleM_sw ok (k := k) (s := ⟨s.p + 2, s.r + 1, s.l⟩) z.2 h12
              unfold Ev at y ⊢
              split at y
              · next e =>
                try rw [e]
                exact y
              · next e =>
                try rw [e]
                obtain ⟨a, b, n, q1, q2, q3, q4, q5, q6⟩ := y
                exact ⟨a, b, q1, q2, q3, q4, q6.mono (by omega) (by omega)⟩
            · have y := partsM_sw ok (fun s h1 h2 => ruleM_sw ok (k := k) (s := s) h1 h2) (f := T.length) (acc := []) (s := ⟨s.p + 2, s.r + 1, s.l⟩) (w := 0) (SwL.nil _ _) z.2 h12
              unfold Ev at y
              split at y
              · next e =>
                try rw [e]
                exact y
              · next e =>
                try rw [e]
                obtain ⟨a, b, q1, q2, q3, q4, q5⟩ := y
                exact ⟨a, b, q1, q2, q3, q4, (Sw.tup q5).mono (Nat.le_refl _) (by omega)⟩
        unfold Ev at body
        split at body
        · next e =>
          try rw [e]
          exact body
        · next d s2 e =>
          try rw [e]
          obtain ⟨a, b, q1, q2, q3, q4, q5⟩ := body
          show Ev (if tk T s2.p = ")" then _ else _) _
          split
          · refine ⟨a + 1, b, 11 * a + 20 * b + 10, by show s2.r = _; omega, q2, q3, q4, by omega, ?_⟩
            exact (Sw.tup (SwL.cons ((kinds_small z.1).mono (Nat.zero_le _) (Nat.le_refl _)) (SwL.cons q5 (SwL.nil _ 0)))).mono (by omega) (by omega)
          · exact ok.col _
      · exact ok.col _
    · exact ok.col _
def EvX {α : Type} (r : Except Nat α) (P : α → Prop) : Prop := match r with
  | .error c => c < 2 ^ 30
  | .ok d => P d
def IsT (d : PyData) : Prop := ∃ ds, d = .tuple ds
theorem ruleM_tup {T : TkL} {k : Nat} {s s' : PSt} {d : PyData} (h : ruleM T k s = .ok (d, s')) : IsT d := by
  cases k with
  | zero => cases h
  | succ k =>
    unfold ruleM at h
    split at h
    · split at h
      · split at h
        · cases h
        · split at h
          · cases h
            exact ⟨_, rfl⟩
          · cases h
      · cases h
    · cases h
theorem wholeM_sw {T : TkL} (ok : TkOk T) (p : Nat) : EvX (wholeM T p) fun d => IsT d ∧ Sw 16 460 d := by
  unfold wholeM
  have y := ruleM_sw ok (k := 8) (s := ⟨p, 0, 0⟩) (Nat.zero_le _) (Nat.zero_le _)
  unfold Ev at y
  split at y
  · next e =>
    try rw [e]
    exact y
  · next d s e =>
    try rw [e]
    obtain ⟨a, b, n, q1, q2, q3, q4, q5, q6⟩ := y
    show EvX (if tk T s.p = "" then .ok d else .error (cl T s.p)) _
    split
    · exact ⟨ruleM_tup e, q6.mono (Nat.le_refl _) (by
        have : s.r = 0 + a := q1
        have : s.l = 0 + b := q2
        omega)⟩
    · exact ok.col _
/-! ### lines of one kind -/
theorem wordM_sw {T : TkL} (ok : TkOk T) : ∀ {f : Nat} {acc : List Str} {p : Nat}, (∀ l ∈ acc, Sw 0 17 (.str l)) → acc.length ≤ 30 → EvX (wordM T f acc p) fun ls => (∀ l ∈ ls, Sw 0 17 (.str l)) ∧ ls.length ≤ 30
  | 0, _, _, _, _ => (by decide : (0 : Nat) < 2 ^ 30)
  | f + 1, acc, p, h, hl => by
    unfold wordM
    split
    · exact ⟨h, hl⟩
    · split
      · next z =>
        rw [Bool.and_eq_true, decide_eq_true_eq] at z
        refine wordM_sw ok (fun l hm => ?_) (by rw [List.length_append]; show _ + 1 ≤ _; omega)
        rcases List.mem_append.mp hm with hm | hm
        · exact h l hm
        · rw [List.mem_singleton.mp hm]
          exact Sw.letter z.1
      · exact ok.col _
theorem posM_sw {T : TkL} (ok : TkOk T) : ∀ {f : Nat} {acc : List Nat} {p : Nat}, (∀ n ∈ acc, n ≤ 30) → EvX (posM T f acc p) fun ns => (∀ n ∈ ns, n ≤ 30) ∧ ns.length ≤ acc.length + f
  | 0, _, _, _ => (by decide : (0 : Nat) < 2 ^ 30)
  | f + 1, acc, p, h => by
    unfold posM
    split
    · exact ⟨h, Nat.le_add_right _ _⟩
    · split
      · next n e =>
        have ih := posM_sw ok (f := f) (acc := acc ++ [n]) (p := p + 1) fun m hm => by
          rcases List.mem_append.mp hm with hm | hm
          · exact h m hm
          · rw [List.mem_singleton.mp hm]
            exact figsM_le e
        unfold EvX at ih ⊢
        split at ih
        · exact ih
        · refine ⟨ih.1, Nat.le_trans ih.2 ?_⟩
          rw [List.length_append]
          show _ + 1 + f ≤ _
          omega
      · exact ok.col _
theorem nameD_sw {x : Str} {d : PyData} (h : nameD x = some d) : Sw 0 14 d := by
  unfold nameD at h
  split at h
  · next n e =>
    cases h
    have := figsM_le e
    exact Sw.int (by omega) (by decide)
  · split at h
    · next z =>
      cases h
      have := nameM_small z
      exact (Sw.str this.1).mono (Nat.le_refl _) (by omega)
    · cases h
theorem stepM_sw {T : TkL} (ok : TkOk T) (p : Nat) : EvX (stepM T p) (Sw 1 40) := by
  unfold stepM
  split
  · exact ok.col _
  · next a ea =>
    split
    · exact ok.col _
    · next b eb =>
      split
      · exact ok.col _
      · next d ed =>
        have la := figsM_le ea
        have lb := figsM_le eb
        exact (Sw.tup (SwL.cons (Sw.int (m := 5) (by omega) (by decide)) (SwL.cons (Sw.int (m := 5) (by omega) (by decide)) (SwL.cons (nameD_sw ed) (SwL.nil _ 0))))).mono (Nat.le_refl _) (by omega)
theorem routeM_sw {T : TkL} (ok : TkOk T) : ∀ {f : Nat} {acc : List PyData} {p : Nat}, (∀ d ∈ acc, Sw 1 40 d) → acc.length ≤ 60 → EvX (routeM T f acc p) fun ds => (∀ d ∈ ds, Sw 1 40 d) ∧ ds.length ≤ 60
  | 0, _, _, _, _ => (by decide : (0 : Nat) < 2 ^ 30)
  | f + 1, acc, p, h, hl => by
    have more : ∀ d : PyData, Sw 1 40 d → ∀ e ∈ acc ++ [d], Sw 1 40 e := fun d hd e he => by
      rcases List.mem_append.mp he with he | he
      · exact h e he
      · rw [List.mem_singleton.mp he]
        exact hd
    unfold routeM
    split
    · exact ⟨h, hl⟩
    · split
      · next z =>
        have y := stepM_sw ok p
        unfold EvX at y
        split at y
        · next e =>
          try rw [e]
          exact y
        · next d e =>
          try rw [e]
          exact routeM_sw ok (more d y) (by rw [z]; show 0 + 1 ≤ 60; decide)
      · split
        · split
          · exact ok.col _
          · next z =>
            have y := stepM_sw ok (p + 1)
            unfold EvX at y
            split at y
            · next e =>
              try rw [e]
              exact y
            · next d e =>
              try rw [e]
              exact routeM_sw ok (more d y) (by rw [List.length_append]; show _ + 1 ≤ _; omega)
        · exact ok.col _
theorem placesM_sw {T : TkL} (ok : TkOk T) : ∀ {f : Nat} {acc : List Nat} {p : Nat}, (∀ n ∈ acc, n ≤ 1000000) → acc.length ≤ 64 → EvX (placesM T f acc p) fun ns => (∀ n ∈ ns, n ≤ 1000000) ∧ ns.length ≤ 64
  | 0, _, _, _, _ => (by decide : (0 : Nat) < 2 ^ 30)
  | f + 1, acc, p, h, hl => by
    unfold placesM
    split
    · exact ⟨h, hl⟩
    · split
      · exact ok.col _
      · next n e =>
        split
        · next z =>
          refine placesM_sw ok (fun m hm => ?_) (by rw [List.length_append]; show _ + 1 ≤ _; omega)
          rcases List.mem_append.mp hm with hm | hm
          · exact h m hm
          · rw [List.mem_singleton.mp hm]
            exact figsM_le e
        · exact ok.col _
theorem placeM_le {ps : List Nat} {x : Str} {n : Nat} (h : placeM ps x = some n) : n ≤ 1000000 := by
  unfold placeM at h
  split at h
  · cases h
  · next e =>
    split at h
    · cases h
      exact figsM_le e
    · cases h
theorem roadM_sw {T : TkL} (ok : TkOk T) (ps : List Nat) : EvX (roadM ps T) (Sw 1 81) := by
  unfold roadM
  split
  · next z =>
    split
    · exact ok.col _
    · next a ea =>
      split
      · exact ok.col _
      · next b eb =>
        split
        · exact ok.col _
        · next c ec =>
          split
          · have la := placeM_le ea
            have lb := placeM_le eb
            have lc := figsM_le ec
            exact (Sw.tup (SwL.cons (Sw.letter z) (SwL.cons (Sw.int (m := 20) (by omega) (by decide)) (SwL.cons (Sw.int (m := 20) (by omega) (by decide)) (SwL.cons (Sw.int (m := 20) (by omega) (by decide)) (SwL.nil _ 0)))))).mono (Nat.le_refl _) (by omega)
          · exact ok.col _
  · exact ok.col _
/-! ### texts of lines -/
def Ev2 {α : Type} (r : Except (Nat × Nat) α) (P : α → Prop) : Prop := match r with
  | .error nc => nc.1 < 2 ^ 30 ∧ nc.2 < 2 ^ 30
  | .ok d => P d
def LnsOk (l : Lns) : Prop := ∀ q ∈ l, TkOk q.1 ∧ q.2 < 2 ^ 30
theorem linesOf_mem : ∀ {l : List Str} {k : Nat} {q : TkL × Nat}, q ∈ linesOf k l → (∃ y ∈ l, q.1 = toks y) ∧ q.2 ≤ k + l.length
  | [], _, _, h => by simp [linesOf] at h
  | y :: r, k, q, h => by
    rcases List.mem_cons.mp h with rfl | h
    · exact ⟨⟨y, List.mem_cons_self .., rfl⟩, by rw [List.length_cons]; show k + 1 ≤ _; omega⟩
    · obtain ⟨⟨z, hz, e⟩, h2⟩ := linesOf_mem h
      exact ⟨⟨z, List.mem_cons_of_mem _ hz, e⟩, by rw [List.length_cons]; omega⟩
theorem linesM_ok {x : Str} (h : x.length < 2 ^ 17) : LnsOk (linesM x) := fun q hq => by
  obtain ⟨⟨y, hy, e⟩, h2⟩ := linesOf_mem (List.mem_filter.mp hq).1
  have z := split_small x
  refine ⟨by rw [e]; exact toks_ok (by have := z.1 y hy; omega), by have := z.2; omega⟩
theorem LnsOk.tail {q : TkL × Nat} {l : Lns} (h : LnsOk (q :: l)) : LnsOk l := fun r hr => h r (List.mem_cons_of_mem _ hr)
theorem bookM_sw : ∀ {l : Lns} {acc : List (Str × PyData)}, LnsOk l → (∀ q ∈ acc, Sw 0 8 (.str q.1) ∧ Sw 16 460 q.2) → acc.length ≤ 8 → Ev2 (bookM l acc) fun r => (∀ q ∈ r, Sw 0 8 (.str q.1) ∧ Sw 16 460 q.2) ∧ r.length ≤ 8
  | [], acc, _, h, hl => ⟨h, hl⟩
  | (T, n) :: r, acc, ho, h, hl => by
    obtain ⟨ok, hn⟩ := ho _ (List.mem_cons_self ..)
    unfold bookM
    split
    · next z =>
      simp only [Bool.and_eq_true, decide_eq_true_eq] at z
      split
      · have y := wholeM_sw ok 2
        unfold EvX at y
        split at y
        · next e =>
          try rw [e]
          exact ⟨hn, y⟩
        · next d e =>
          try rw [e]
          refine bookM_sw ho.tail (fun q hq => ?_) (by rw [List.length_append]; show _ + 1 ≤ _; omega)
          rcases List.mem_append.mp hq with hq | hq
          · exact h q hq
          · rw [List.mem_singleton.mp hq]
            have sm := nameM_small z.1.1
            exact ⟨(Sw.str sm.1).mono (Nat.le_refl _) sm.2, y.2⟩
      · exact ⟨hn, ok.col _⟩
    · exact ⟨hn, ok.col _⟩
theorem roadsM_sw {ps : List Nat} : ∀ {l : Lns} {acc : List PyData}, LnsOk l → (∀ d ∈ acc, Sw 1 81 d) → acc.length ≤ 200 → Ev2 (roadsM ps l acc) fun r => (∀ d ∈ r, Sw 1 81 d) ∧ r.length ≤ 200
  | [], acc, _, h, hl => ⟨h, hl⟩
  | (T, n) :: r, acc, ho, h, hl => by
    obtain ⟨ok, hn⟩ := ho _ (List.mem_cons_self ..)
    unfold roadsM
    split
    · next z =>
      have y := roadM_sw ok ps
      unfold EvX at y
      split at y
      · next e =>
        try rw [e]
        exact ⟨hn, y⟩
      · next d e =>
        try rw [e]
        refine roadsM_sw ho.tail (fun q hq => ?_) (by rw [List.length_append]; show _ + 1 ≤ _; omega)
        rcases List.mem_append.mp hq with hq | hq
        · exact h q hq
        · rw [List.mem_singleton.mp hq]
          exact y
    · exact ⟨hn, ok.col _⟩
theorem ints_sw {m : Nat} (hm : m ≤ 30) : ∀ {ns : List Nat}, (∀ n ∈ ns, n < 2 ^ m) → SwL 0 (ns.length * (m + 1)) (ns.map fun n => PyData.int (n : Nat)) := fun {ns} h => by
  have := SwL.of (k := 0) (n := m) (ds := ns.map fun n => PyData.int (n : Nat)) fun d hd => by
    obtain ⟨n, hn, rfl⟩ := List.mem_map.mp hd
    exact Sw.int (h n hn) hm
  rw [List.length_map] at this
  exact this
theorem kv_sw {k n : Nat} : ∀ {nds : List (Str × PyData)}, (∀ q ∈ nds, Sw 0 n (.str q.1) ∧ Sw k n q.2) →
    PyData.showableKv (nds.map fun p => (PyData.str p.1, p.2)) = true ∧ PyData.leavesShortKv 100 (nds.map fun p => (PyData.str p.1, p.2)) = true ∧ PyData.depthKv (nds.map fun p => (PyData.str p.1, p.2)) ≤ k ∧
      PyData.weightKv (nds.map fun p => (PyData.str p.1, p.2)) ≤ nds.length * (2 * n + 2)
  | [], _ => by simp [PyData.showableKv, PyData.leavesShortKv, PyData.depthKv, PyData.weightKv]
  | q :: r, h => by
    obtain ⟨i1, i2, i3, i4⟩ := kv_sw (nds := r) fun e he => h e (List.mem_cons_of_mem _ he)
    obtain ⟨a, b⟩ := h q (List.mem_cons_self ..)
    have a3 := a.dp
    have a4 := a.wt
    have b4 := b.wt
    refine ⟨?_, ?_, ?_, ?_⟩
    · simp only [List.map_cons, PyData.showableKv, a.sh, b.sh, i1, Bool.and_self]
    · simp only [List.map_cons, PyData.leavesShortKv, a.lv, b.lv, i2, Bool.and_self]
    · simp only [List.map_cons, PyData.depthKv]
      exact Nat.max_le.mpr ⟨Nat.max_le.mpr ⟨by omega, b.dp⟩, i3⟩
    · simp only [List.map_cons, PyData.weightKv, List.length_cons]
      rw [Nat.add_mul]
      omega
def IsTD (d : PyData) : Prop := (∃ ds, d = .tuple ds) ∨ ∃ ps, d = .dict ps
/-- what any text is read as -/
theorem readM_sw {way x : Str} (h : x.length < 2 ^ 14) : IsTD (outD (readM way x)) ∧ Sw 17 110000 (outD (readM way x)) := by
  have ok : TkOk (toks x) := toks_ok (by omega)
  have lt : (toks x).length ≤ 2 ^ 14 := by
    have := lexF_len (L := tl x) (f := x.length) (i := 0)
    unfold toks
    rw [List.length_append]
    show _ + 1 ≤ _
    omega
  have prob : ∀ nc : Nat × Nat, nc.1 < 2 ^ 30 → nc.2 < 2 ^ 30 → IsTD (outD (.error nc)) ∧ Sw 17 110000 (outD (.error nc)) := fun nc h1 h2 => by
    have s1 : Sw 0 6 (.str "syntax") := Sw.str (x := "syntax") (by decide +kernel)
    exact ⟨.inl ⟨_, rfl⟩, (Sw.tup (SwL.cons s1 (SwL.cons (Sw.int h1 (by decide)) (SwL.cons (Sw.int h2 (by decide)) (SwL.nil _ 0))))).mono (by decide) (by decide)⟩
  have line : ∀ {r : Except Nat PyData}, EvX r (fun d => IsT d ∧ Sw 17 110000 d) → IsTD (outD (at1 r)) ∧ Sw 17 110000 (outD (at1 r)) := fun {r} y => by
    unfold EvX at y
    split at y
    · exact prob (1, _) (by show 1 < 2 ^ 30; decide) y
    · exact ⟨.inl y.1, y.2⟩
  have lo := linesM_ok (x := x) (by omega)
  unfold readM
  split
  · unfold rdBook
    have y := bookM_sw lo (acc := []) (fun _ z => by simp at z) (by decide)
    unfold Ev2 at y
    split at y
    · next e =>
      try rw [e]
      exact prob _ y.1 y.2
    · next nds e =>
      try rw [e]
      obtain ⟨i1, i2, i3, i4⟩ := kv_sw (k := 16) (n := 460) (nds := nds) fun q hq => ⟨(y.1 q hq).1.mono (Nat.le_refl _) (by decide), (y.1 q hq).2⟩
      refine ⟨.inr ⟨_, rfl⟩, ?_, ?_, ?_, ?_⟩
      · show (PyData.dict _).showable = true
        simp only [PyData.showable, i1]
      · show (PyData.dict _).leavesShort 100 = true
        simp only [PyData.leavesShort, i2]
      · show (PyData.dict _).depth ≤ 17
        simp only [PyData.depth]
        omega
      · show (PyData.dict _).weight ≤ _
        simp only [PyData.weight]
        have : nds.length * (2 * 460 + 2) ≤ 8 * (2 * 460 + 2) := Nat.mul_le_mul_right _ y.2
        omega
  · split
    · unfold netM
      split
      · refine prob _ ?_ (by show 1 < 2 ^ 30; decide)
        have := (split_small x).2
        show _ + 1 < _
        omega
      · next T n r e =>
        rw [e] at lo
        obtain ⟨okT, hn⟩ := lo _ (List.mem_cons_self ..)
        split
        · have y := placesM_sw okT (f := T.length) (acc := []) (p := 1) (fun _ z => by simp at z) (by decide)
          unfold EvX at y
          split at y
          · next e2 =>
            try rw [e2]
            exact prob _ hn y
          · next ps e2 =>
            try rw [e2]
            have z := roadsM_sw (ps := ps) lo.tail (acc := []) (fun _ z => by simp at z) (by decide)
            unfold Ev2 at z
            show IsTD (outD (match roadsM ps r [] with
              | .error e => .error e
              | .ok ds => .ok (.tuple [tupI ps, .tuple (sortD ds)]))) ∧ Sw 17 110000 (outD (match roadsM ps r [] with
              | .error e => .error e
              | .ok ds => .ok (.tuple [tupI ps, .tuple (sortD ds)])))
            split at z
            · next e3 =>
              try rw [e3]
              exact prob _ z.1 z.2
            · next ds e3 =>
              try rw [e3]
              have w1 : Sw 1 (64 * 21) (tupI ps) := (Sw.tup (ints_sw (m := 20) (by decide) fun n hn => by have := y.1 n hn; omega)).mono (by decide) (Nat.mul_le_mul_right _ y.2)
              have w2 : Sw 2 (200 * 82) (.tuple (sortD ds)) := by
                refine (Sw.tup (SwL.of (k := 1) (n := 81) fun d hd => z.1 d ?_)).mono (by decide) ?_
                · exact (List.mergeSort_perm ds _).mem_iff.mp hd
                · rw [show (sortD ds).length = ds.length from (List.mergeSort_perm ds _).length_eq]
                  exact Nat.mul_le_mul_right _ z.2
              exact ⟨.inl ⟨_, rfl⟩, (Sw.tup (SwL.cons (w1.mono (k' := 2) (by decide) (Nat.le_refl _)) (SwL.cons w2 (SwL.nil _ 0)))).mono (by decide) (by decide)⟩
        · exact prob _ hn (okT.col _)
    · split
      · refine line ?_
        have y := wholeM_sw ok 0
        unfold rdRule
        unfold EvX at y ⊢
        split at y
        · next e =>
          try rw [e]
          exact y
        · next e =>
          try rw [e]
          exact ⟨y.1, y.2.mono (by decide) (by decide)⟩
      · split
        · refine line ?_
          have y := routeM_sw ok (f := (toks x).length) (acc := []) (p := 0) (fun _ z => by simp at z) (by decide)
          unfold rdRoute
          unfold EvX at y
          split at y
          · next e =>
            try rw [e]
            exact y
          · next ds e =>
            try rw [e]
            exact ⟨⟨_, rfl⟩, (Sw.tup (SwL.of y.1)).mono (by decide) (by
              have : ds.length * (40 + 1) ≤ 60 * (40 + 1) := Nat.mul_le_mul_right _ y.2
              omega)⟩
        · split
          · refine line ?_
            have y := wordM_sw ok (f := (toks x).length) (acc := []) (p := 0) (fun _ z => by simp at z) (by decide)
            unfold rdWord
            unfold EvX at y
            split at y
            · next e =>
              try rw [e]
              exact y
            · next ls e =>
              try rw [e]
              exact ⟨⟨_, rfl⟩, (Sw.tup (SwL.of (k := 0) (n := 17) (ds := ls.map .str) fun d hd => by
                obtain ⟨l, hl, rfl⟩ := List.mem_map.mp hd
                exact y.1 l hl)).mono (by decide) (by
                rw [List.length_map]
                have : ls.length * (17 + 1) ≤ 30 * (17 + 1) := Nat.mul_le_mul_right _ y.2
                omega)⟩
          · refine line ?_
            have y := posM_sw ok (f := (toks x).length) (acc := []) (p := 0) (fun _ z => by simp at z)
            unfold rdPos
            unfold EvX at y
            split at y
            · next e =>
              try rw [e]
              exact y
            · next ns e =>
              try rw [e]
              exact ⟨⟨_, rfl⟩, (Sw.tup (ints_sw (m := 5) (by decide) fun n hn => by have := y.1 n hn; omega)).mono (by decide) (by
                have h2 : ns.length ≤ 0 + (toks x).length := y.2
                have : ns.length * (5 + 1) ≤ 2 ^ 14 * (5 + 1) := Nat.mul_le_mul_right _ (by omega)
                omega)⟩
theorem Sw.shown {k : Nat} {d : PyData} (h : Sw k 110000 d) : d.shown.length ≤ sizeLine := by
  have := PyData.shown_le 100 (by decide) d h.lv
  have := h.wt
  have : sizeLine = 16777216 := rfl
  omega
end T65
end
section
/-! Pb: no bent text has a road whose letter is syntax; how long the texts are. -/
namespace T65
open PySem PySem.W TL
theorem bent_chars : ∀ {k : Nat} {x y : Str}, Bent k x y → ∃ ms : List Str, ms.length = k ∧ (∀ m ∈ ms, m ∈ menu) ∧ ∀ c ∈ tl y, c ∈ tl x ∨ ∃ m ∈ ms, c ∈ tl m
  | 0, x, y, h => by
    have e : y = x := h
    subst e
    exact ⟨[], rfl, fun _ z => by simp at z, fun c hc => .inl hc⟩
  | k + 1, x, y, h => by
    obtain ⟨z, i, j, m, hz, hi, hm, e⟩ := h
    obtain ⟨ms, h1, h2, h3⟩ := bent_chars hz
    refine ⟨m :: ms, by rw [List.length_cons, h1], fun u hu => ?_, fun c hc => ?_⟩
    · rcases List.mem_cons.mp hu with rfl | hu
      · exact hm
      · exact h2 u hu
    · have old : c ∈ tl z → c ∈ tl x ∨ ∃ u ∈ m :: ms, c ∈ tl u := fun hcz => by
        rcases h3 c hcz with a | ⟨u, hu, a⟩
        · exact .inl a
        · exact .inr ⟨u, List.mem_cons_of_mem _ hu, a⟩
      rw [e] at hc
      rcases List.mem_append.mp hc with hc | hc
      · rcases List.mem_append.mp hc with hc | hc
        · exact old (List.mem_of_mem_take hc)
        · exact .inr ⟨m, List.mem_cons_self .., hc⟩
      · exact old (List.mem_of_mem_drop hc)
/-! ### signs of tokens -/
theorem lexF_signs {L : List Nat} : ∀ {f i : Nat} {q : Str × Nat}, q ∈ lexF L f i → ∀ c ∈ tl q.1, c ∈ L
  | 0, _, _, h => by simp [lexF] at h
  | f + 1, i, q, h => by
    unfold lexF at h
    split at h
    · rcases List.mem_append.mp h with h | h
      · split at h
        · simp at h
        · intro c hc
          rw [List.mem_singleton.mp h] at hc
          exact List.mem_of_mem_drop (List.mem_of_mem_take hc)
      · exact lexF_signs h
    · simp at h
theorem tk_signs {x : Str} {p : Nat} : ∀ c ∈ tl (tk (toks x) p), c ∈ tl x := fun c hc => by
  unfold tk at hc
  rw [List.getD_eq_getElem?_getD] at hc
  cases e : (toks x)[p]? with
  | none =>
    rw [e] at hc
    have hc' : c ∈ ([] : List Nat) := hc
    simp at hc'
  | some q =>
    rw [e] at hc
    have hm : q ∈ toks x := List.mem_of_getElem? e
    unfold toks at hm
    rcases List.mem_append.mp hm with hm | hm
    · exact lexF_signs hm c hc
    · rw [List.mem_singleton.mp hm] at hc
      have hc' : c ∈ ([] : List Nat) := hc
      simp at hc'
theorem spl_signs {S : List Nat} : ∀ (l acc : List Nat) (k : Nat), ∀ p ∈ spl S k acc l, ∀ c ∈ p, c ∈ acc ∨ c ∈ l
  | [], acc, k, p, hp, c, hc => by
    rw [spl_nil] at hp
    rw [List.mem_singleton.mp hp] at hc
    exact .inl hc
  | d :: l, acc, 0, p, hp, c, hc => by
    unfold spl at hp
    split at hp
    · rcases List.mem_cons.mp hp with rfl | hp
      · exact .inl hc
      · rcases spl_signs l [] (S.length - 1) p hp c hc with z | z
        · simp at z
        · exact .inr (List.mem_cons_of_mem _ z)
    · rcases spl_signs l (acc ++ [d]) 0 p hp c hc with z | z
      · rcases List.mem_append.mp z with z | z
        · exact .inl z
        · rw [List.mem_singleton.mp z]
          exact .inr (List.mem_cons_self ..)
      · exact .inr (List.mem_cons_of_mem _ z)
  | d :: l, acc, k + 1, p, hp, c, hc => by
    unfold spl at hp
    rcases spl_signs l acc k p hp c hc with z | z
    · exact .inl z
    · exact .inr (List.mem_cons_of_mem _ z)
theorem linesOf_mem' : ∀ {l : List Str} {k : Nat} {q : TkL × Nat}, q ∈ linesOf k l → ∃ y ∈ l, q.1 = toks y
  | [], _, _, h => by simp [linesOf] at h
  | y :: r, k, q, h => by
    rcases List.mem_cons.mp h with rfl | h
    · exact ⟨y, List.mem_cons_self .., rfl⟩
    · obtain ⟨z, hz, e⟩ := linesOf_mem' h
      exact ⟨z, List.mem_cons_of_mem _ hz, e⟩
theorem noSyn_of {x : Str} (h : ¬ (115 ∈ tl x ∧ 121 ∈ tl x ∧ 110 ∈ tl x ∧ 116 ∈ tl x ∧ 10 ∈ tl x)) : NoSyn x := fun q hq e => by
  apply h
  have hm : q ∈ linesM x := List.mem_of_mem_tail hq
  obtain ⟨y, hy, ey⟩ := linesOf_mem' (List.mem_filter.mp hm).1
  have sub : ∀ c ∈ tl ("syntax" : Str), c ∈ tl x := fun c hc => by
    rw [← e, ey] at hc
    have h1 := tk_signs c hc
    have h2 : tl y ∈ spl [10] 0 [] (tl x) := by
      rw [← split_nl]
      exact List.mem_map_of_mem hy
    rcases spl_signs _ _ _ _ h2 c h1 with z | z
    · simp at z
    · exact z
  refine ⟨sub _ (by decide +kernel), sub _ (by decide +kernel), sub _ (by decide +kernel), sub _ (by decide +kernel), ?_⟩
  apply Classical.byContradiction
  intro n10
  have z := split_nl x
  rw [spl_last1 n10] at z
  have l1 := congrArg List.length z
  rw [List.length_map] at l1
  have l2 : (linesM x).length ≤ 1 := by
    unfold linesM fullL
    refine Nat.le_trans (List.length_filter_le _ _) ?_
    rw [linesOf_len, l1]
    exact Nat.le_refl _
  have l3 : (linesM x).tail.length = 0 := by
    rw [List.length_tail]
    omega
  rw [List.length_eq_zero_iff.mp l3] at hq
  simp at hq
/-! ### signs that a text has not -/
theorem app_free {c : Nat} {x y : Str} (h1 : c ∉ tl x) (h2 : c ∉ tl y) : c ∉ tl (x ++ y) := fun z => by
  rw [tl_append] at z
  rcases List.mem_append.mp z with z | z
  · exact h1 z
  · exact h2 z
theorem joinL_free {c : Nat} {s : List Nat} (h1 : c ∉ s) : ∀ {l : List (List Nat)}, (∀ y ∈ l, c ∉ y) → c ∉ joinL s l
  | [], _ => by simp [joinL]
  | [p], h => h p (List.mem_cons_self ..)
  | p :: q :: r, h => fun z => by
    have z' : c ∈ p ++ (s ++ joinL s (q :: r)) := z
    rcases List.mem_append.mp z' with z | z
    · exact h p (List.mem_cons_self ..) z
    · rcases List.mem_append.mp z with z | z
      · exact h1 z
      · exact joinL_free h1 (l := q :: r) (fun y hy => h y (List.mem_cons_of_mem _ hy)) z
theorem join_free {c : Nat} {sep : Str} {l : List Str} (h1 : c ∉ tl sep) (h2 : ∀ y ∈ l, c ∉ tl y) : c ∉ tl (Txt.join sep l) := by
  rw [join_eq, tl_join]
  refine joinL_free h1 fun y hy => ?_
  obtain ⟨z, hz, rfl⟩ := List.mem_map.mp hy
  exact h2 z hz
theorem num_free {c n : Nat} (h : c < 48 ∨ 57 < c) : c ∉ tl (numS n) := by
  rw [show tl (numS n) = numL n from tl_num n]
  exact numL_free h
theorem Lts_free {c : Nat} (h : c = 121 ∨ c = 10) : ∀ l ∈ Lts, c ∉ tl l := by
  rcases h with rfl | rfl <;> decide +kernel
theorem rule_free {c : Nat} (h : c = 121 ∨ c = 10) : ∀ {k : Nat} {d : PyData}, RK k d → c ∉ tl (ruleX k d)
  | 0, _, z => z.elim
  | k + 1, d, z => by
    rcases z with ⟨ls, h1, h2, rfl⟩ | ⟨e, h1, rfl⟩ | ⟨kd, ds, h1, h2, h3, rfl⟩
    · rw [ruleX_word]
      refine app_free (app_free ?_ (join_free ?_ fun y hy => Lts_free h y (h2 y hy))) ?_
      all_goals rcases h with rfl | rfl <;> decide +kernel
    · rw [ruleX_again]
      refine app_free (app_free ?_ (rule_free h h1)) ?_
      all_goals rcases h with rfl | rfl <;> decide +kernel
    · rw [ruleX_many k h1]
      refine app_free (app_free (app_free ?_ ?_) (join_free ?_ fun y hy => ?_)) ?_
      · rcases h1 with rfl | rfl <;> rcases h with rfl | rfl <;> decide +kernel
      · rcases h with rfl | rfl <;> decide +kernel
      · rcases h with rfl | rfl <;> decide +kernel
      · obtain ⟨e, he, rfl⟩ := List.mem_map.mp hy
        exact rule_free h (h3 e he)
      · rcases h with rfl | rfl <;> decide +kernel
theorem road_free {c : Nat} (h : c = 121 ∨ c = 10) {ps : List Nat} {d : PyData} (z : RoadOk ps d) : c ∉ tl (roadX d) := by
  obtain ⟨l, a, b, n, h1, _, _, _, rfl⟩ := z
  have hs : c < 48 ∨ 57 < c := by omega
  show c ∉ tl ("road " ++ l ++ " " ++ numS a ++ " " ++ numS b ++ " " ++ numS n)
  refine app_free (app_free (app_free (app_free (app_free (app_free (app_free ?_ (Lts_free h l h1)) ?_) (num_free hs)) ?_) (num_free hs)) ?_) (num_free hs)
  all_goals rcases h with rfl | rfl <;> decide +kernel
theorem places_free {c : Nat} (h : c = 121 ∨ c = 10) (ns : List Nat) : c ∉ tl (placesX ns) := by
  have hs : c < 48 ∨ 57 < c := by omega
  refine join_free (by rcases h with rfl | rfl <;> decide +kernel) fun y hy => ?_
  rcases List.mem_cons.mp hy with rfl | hy
  · rcases h with rfl | rfl <;> decide +kernel
  · obtain ⟨n, _, rfl⟩ := List.mem_map.mp hy
    exact num_free hs
theorem nms_free {c : Nat} (h : c = 121 ∨ c = 10) : ∀ n ∈ nms, c ∉ tl n := by
  rcases h with rfl | rfl <;> decide +kernel
theorem entry_free {c : Nat} (h : c = 121 ∨ c = 10) {q : Str × PyData} (h1 : q.1 ∈ nms) (h2 : RuleOk q.2) : c ∉ tl (q.1 ++ " = " ++ ruleX 4 q.2) :=
  app_free (app_free (nms_free h _ h1) (by rcases h with rfl | rfl <;> decide +kernel)) (rule_free h h2.1)
theorem step_free {c : Nat} (h : c = 115 ∨ c = 110 ∨ c = 116 ∨ c = 10) {d : PyData} (z : StepOk d) : c ∉ tl (stepX d) := by
  obtain ⟨a, b, e, _, _, he, rfl⟩ := z
  have hs : c < 48 ∨ 57 < c := by omega
  rw [stepX_eq]
  have h32 : c ∉ tl (" " : Str) := by rcases h with rfl | rfl | rfl | rfl <;> decide +kernel
  refine app_free (app_free (app_free (app_free (num_free hs) h32) (num_free hs)) h32) ?_
  rcases he with rfl | rfl | rfl | rfl | rfl | rfl <;> rcases h with rfl | rfl | rfl | rfl <;> decide +kernel
theorem route_free {c : Nat} (h : c = 115 ∨ c = 110 ∨ c = 116 ∨ c = 10) {ds : List PyData} (z : ∀ d ∈ ds, StepOk d) : c ∉ tl (routeX ds) :=
  join_free (by rcases h with rfl | rfl | rfl | rfl <;> decide +kernel) fun y hy => by
    obtain ⟨d, hd, rfl⟩ := List.mem_map.mp hy
    exact step_free h (z d hd)
theorem no_y {t : Th} (h : t.ok) (hr : t.way ≠ "route") : 121 ∉ tl t.text := by
  cases t with
  | rule d => exact rule_free (.inl rfl) h.1
  | word ls => exact join_free (by decide +kernel) fun y hy => Lts_free (.inl rfl) y (h.1 y hy)
  | route ds => exact absurd rfl hr
  | pos ns =>
    exact join_free (by decide +kernel) fun y hy => by
      obtain ⟨n, _, rfl⟩ := List.mem_map.mp hy
      exact num_free (.inr (by decide))
  | net ps ds =>
    exact join_free (by decide +kernel) fun y hy => by
      rcases List.mem_cons.mp hy with rfl | hy
      · exact places_free (.inl rfl) ps
      · obtain ⟨d, hd, rfl⟩ := List.mem_map.mp hy
        exact road_free (.inl rfl) (h.2.2.2.1 d hd)
  | book nds =>
    exact join_free (by decide +kernel) fun y hy => by
      obtain ⟨q, hq, rfl⟩ := List.mem_map.mp hy
      exact entry_free (.inl rfl) (h.1 q hq).1 (h.1 q hq).2
theorem menu_y : ∀ m ∈ menu, 121 ∉ tl m := by decide +kernel
theorem menu_s : ∀ m ∈ menu, 115 ∈ tl m → m = "places" := by decide +kernel
theorem menu_n : ∀ m ∈ menu, 110 ∈ tl m → m = "again(" := by decide +kernel
theorem menu_t : ∀ m ∈ menu, 116 ∈ tl m → m = "either()" := by decide +kernel
theorem menu_10 : ∀ m ∈ menu, 10 ∈ tl m → m = "\n" := by decide +kernel
theorem four_in {α : Type} {a b c d : α} (hab : a ≠ b) (hac : a ≠ c) (had : a ≠ d) (hbc : b ≠ c) (hbd : b ≠ d) (hcd : c ≠ d) {l : List α} (hl : l.length ≤ 3) (ha : a ∈ l) (hb : b ∈ l) (hc : c ∈ l) (hd : d ∈ l) : False := by
  match l, hl with
  | [], _ => simp at ha
  | [x], _ =>
    simp at ha hb
    exact hab (ha.trans hb.symm)
  | [x, y], _ =>
    simp at ha hb hc
    rcases ha with rfl | rfl <;> rcases hb with rfl | rfl <;> rcases hc with rfl | rfl <;> simp_all
  | [x, y, z], _ =>
    simp at ha hb hc hd
    rcases ha with rfl | rfl | rfl <;> rcases hb with rfl | rfl | rfl <;> rcases hc with rfl | rfl | rfl <;> rcases hd with rfl | rfl | rfl <;> simp_all
theorem bent_noSyn {t : Th} (h : t.ok) {k : Nat} {y : Str} (b : Bent k t.text y) (hk : k ≤ 3) : NoSyn y := by
  obtain ⟨ms, h1, h2, h3⟩ := bent_chars b
  refine noSyn_of fun ⟨a1, a2, a3, a4, a5⟩ => ?_
  by_cases hr : t.way = "route"
  · cases t with
    | route ds =>
      have find : ∀ {c : Nat} {m : Str}, (c = 115 ∨ c = 110 ∨ c = 116 ∨ c = 10) → c ∈ tl y → (∀ u ∈ menu, c ∈ tl u → u = m) → m ∈ ms := fun {c m} hc hy hm => by
        rcases h3 c hy with z | ⟨u, hu, z⟩
        · exact absurd z (route_free hc h.1)
        · rw [← hm u (h2 u hu) z]
          exact hu
      exact four_in (a := ("places" : Str)) (b := "again(") (c := "either()") (d := "\n") (by decide +kernel) (by decide +kernel) (by decide +kernel) (by decide +kernel) (by decide +kernel) (by decide +kernel) (l := ms) (by omega)
        (find (by simp) a1 menu_s) (find (by simp) a3 menu_n) (find (by simp) a4 menu_t) (find (by simp) a5 menu_10)
    | rule d => exact absurd hr (show ("rule" : Str) ≠ "route" by decide +kernel)
    | word d => exact absurd hr (show ("word" : Str) ≠ "route" by decide +kernel)
    | pos d => exact absurd hr (show ("positions" : Str) ≠ "route" by decide +kernel)
    | net d e => exact absurd hr (show ("net" : Str) ≠ "route" by decide +kernel)
    | book d => exact absurd hr (show ("book" : Str) ≠ "route" by decide +kernel)
  · rcases h3 121 a2 with z | ⟨u, hu, z⟩
    · exact no_y h hr z
    · exact menu_y u (h2 u hu) z
/-! ### how long -/
theorem th_len {t : Th} (h : t.ok) : t.text.length ≤ 9000 := by
  cases t with
  | rule d =>
    have := ruleX_len h.1
    have := rB_le (k := 4) (by decide)
    show (ruleX 4 d).length ≤ _
    omega
  | word ls =>
    have w0 := len_join (sep := " ") (n := 4) (l := ls) fun x hx => Lts_len (h.1 x hx)
    have : ls.length * (4 + 1) ≤ 30 * (4 + 1) := Nat.mul_le_mul_right _ h.2
    show (Txt.join " " ls).length ≤ _
    have e3 : (" " : Str).length = 1 := rfl
    rw [e3] at w0
    omega
  | route ds =>
    have w0 := len_join (sep := ", ") (n := 24) (l := ds.map stepX) fun x hx => by
      obtain ⟨d, hd, rfl⟩ := List.mem_map.mp hx
      obtain ⟨a, b, e, ha, hb, he, rfl⟩ := h.1 d hd
      rw [stepX_eq, Str.length_append, Str.length_append, Str.length_append, Str.length_append]
      have l3 : (nmX e).length ≤ 8 := by rcases he with rfl | rfl | rfl | rfl | rfl | rfl <;> decide
      have l1 := numS_len (n := a) (by omega)
      have l2 := numS_len (n := b) (by omega)
      have e3 : (" " : Str).length = 1 := rfl
      omega
    have : ds.length * (24 + 2) ≤ 60 * (24 + 2) := Nat.mul_le_mul_right _ h.2
    show (Txt.join ", " (ds.map stepX)).length ≤ _
    have e3 : (", " : Str).length = 2 := rfl
    rw [e3, List.length_map] at w0
    omega
  | pos ns =>
    have w0 := len_join (sep := " ") (n := 7) (l := ns.map numS) fun x hx => by
      obtain ⟨n, hn, rfl⟩ := List.mem_map.mp hx
      exact numS_len (by have := h.1 n hn; omega)
    have : ns.length * (7 + 1) ≤ 30 * (7 + 1) := Nat.mul_le_mul_right _ h.2
    show (Txt.join " " (ns.map numS)).length ≤ _
    have e3 : (" " : Str).length = 1 := rfl
    rw [e3, List.length_map] at w0
    omega
  | net ps ds =>
    obtain ⟨o1, o2, o3, o4, o5, o6⟩ := h
    have w1 := len_join (sep := " ") (n := 7) (l := "places" :: ps.map numS) fun x hx => by
      rcases List.mem_cons.mp hx with rfl | hx
      · decide
      · obtain ⟨n, hn, rfl⟩ := List.mem_map.mp hx
        exact numS_len (o1 n hn)
    have w2 := PyProof.Rows.len_join_cons ("\n" : Str) (placesX ps) (ds.map roadX)
    have w3 := len_join (sep := "\n") (n := 33) (l := ds.map roadX) fun x hx => by
      obtain ⟨d, hd, rfl⟩ := List.mem_map.mp hx
      obtain ⟨l, a, b, n, h1, ha, hb, hn, rfl⟩ := o4 d hd
      show ("road " ++ l ++ " " ++ numS a ++ " " ++ numS b ++ " " ++ numS n).length ≤ _
      rw [Str.length_append, Str.length_append, Str.length_append, Str.length_append, Str.length_append, Str.length_append, Str.length_append]
      have l1 := numS_len (o1 a ha)
      have l2 := numS_len (o1 b hb)
      have l3 := numS_len hn
      have l4 := Lts_len h1
      have e3 : (" " : Str).length = 1 := rfl
      have e4 : ("road " : Str).length = 5 := rfl
      omega
    have w4 := sum_le (n := 33) (l := ds.map roadX) fun x hx => by
      obtain ⟨d, hd, rfl⟩ := List.mem_map.mp hx
      obtain ⟨l, a, b, n, h1, ha, hb, hn, rfl⟩ := o4 d hd
      show ("road " ++ l ++ " " ++ numS a ++ " " ++ numS b ++ " " ++ numS n).length ≤ _
      rw [Str.length_append, Str.length_append, Str.length_append, Str.length_append, Str.length_append, Str.length_append, Str.length_append]
      have l1 := numS_len (o1 a ha)
      have l2 := numS_len (o1 b hb)
      have l3 := numS_len hn
      have l4 := Lts_len h1
      have e3 : (" " : Str).length = 1 := rfl
      have e4 : ("road " : Str).length = 5 := rfl
      omega
    show (Txt.join "\n" (placesX ps :: ds.map roadX)).length ≤ _
    rw [join_eq, w2]
    have e3 : (" " : Str).length = 1 := rfl
    have e4 : ("\n" : Str).length = 1 := rfl
    have w5 : (placesX ps).length ≤ (("places" : Str) :: ps.map numS).length * (7 + 1) := w1
    rw [List.length_cons, List.length_map] at w5
    have w6 : (ps.length + 1) * (7 + 1) ≤ 65 * (7 + 1) := Nat.mul_le_mul_right _ (by omega)
    have w7 : ds.length * 33 ≤ 200 * 33 := Nat.mul_le_mul_right _ o5
    rw [e4, List.length_map, List.map_cons, List.sum_cons]
    rw [List.length_map] at w4
    omega
  | book nds =>
    have w0 := len_join (sep := "\n") (n := 851) (l := nds.map fun q => q.1 ++ " = " ++ ruleX 4 q.2) fun x hx => by
      obtain ⟨q, hq, rfl⟩ := List.mem_map.mp hx
      rw [Str.length_append, Str.length_append]
      have l1 := nms_len (h.1 q hq).1
      have l2 := ruleX_len (h.1 q hq).2.1
      have l3 := rB_le (k := 4) (by decide)
      have e3 : (" = " : Str).length = 3 := rfl
      omega
    have : nds.length * (851 + 1) ≤ 8 * (851 + 1) := Nat.mul_le_mul_right _ h.2.2
    show (Txt.join "\n" (nds.map fun q => q.1 ++ " = " ++ ruleX 4 q.2)).length ≤ _
    have e3 : ("\n" : Str).length = 1 := rfl
    rw [e3, List.length_map] at w0
    omega
end T65
end
section
/-! Pc: the words of a line, by its parts. -/
namespace T65
open PySem PySem.W TL
/-! ### the words of a line -/
def lexW : Nat → List Nat → List Str
  | 0, _ => []
  | _ + 1, [] => []
  | f + 1, c :: r => if isSg c = true then mkS (c :: r.takeWhile isSg) :: lexW f (r.dropWhile isSg) else (if c = 32 then [] else [mkS [c]]) ++ lexW f r
theorem lexW_cons (f c : Nat) (r : List Nat) : lexW (f + 1) (c :: r) = if isSg c = true then mkS (c :: r.takeWhile isSg) :: lexW f (r.dropWhile isSg) else (if c = 32 then [] else [mkS [c]]) ++ lexW f r := rfl
theorem lexW_nil (f : Nat) : lexW f [] = [] := by cases f <;> rfl
theorem take_tw (p : Nat → Bool) : ∀ l : List Nat, l.take (l.takeWhile p).length = l.takeWhile p ∧ l.drop (l.takeWhile p).length = l.dropWhile p
  | [] => ⟨rfl, rfl⟩
  | c :: r => by
    obtain ⟨h1, h2⟩ := take_tw p r
    by_cases h : p c = true
    · rw [List.takeWhile_cons_of_pos h, List.dropWhile_cons_of_pos h, List.length_cons, List.take_succ_cons, List.drop_succ_cons, h1, h2]
      exact ⟨rfl, rfl⟩
    · rw [List.takeWhile_cons_of_neg h, List.dropWhile_cons_of_neg h]
      exact ⟨rfl, rfl⟩
theorem lexF_W (L : List Nat) : ∀ (f i : Nat), (lexF L f i).map (·.1) = lexW f (L.drop i)
  | 0, _ => rfl
  | f + 1, i => by
    unfold lexF
    split
    · next hi =>
      have ed : L.drop i = L[i] :: L.drop (i + 1) := List.drop_eq_getElem_cons hi
      have eg : L.getD i 0 = L[i] := by rw [List.getD_eq_getElem?_getD, List.getElem?_eq_getElem hi]; rfl
      rw [List.map_append, lexF_W L f, ed, eg, lexW_cons]
      unfold endT
      rw [eg]
      obtain ⟨t1, t2⟩ := take_tw isSg (L.drop (i + 1))
      by_cases hs : isSg L[i] = true
      · have n32 : L[i] ≠ 32 := fun e => by
          rw [e] at hs
          exact absurd hs (by decide +kernel)
        rw [if_pos hs, if_pos hs, if_neg n32]
        rw [show i + 1 + ((L.drop (i + 1)).takeWhile isSg).length - i = ((L.drop (i + 1)).takeWhile isSg).length + 1 by omega, List.take_succ_cons, t1, ← t2, List.drop_drop]
        rfl
      · rw [if_neg hs, if_neg hs]
        rw [show i + 1 + 0 - i = 0 + 1 by omega, List.take_succ_cons, List.take_zero]
        by_cases h32 : L[i] = 32
        · rw [if_pos h32, if_pos h32]
          rfl
        · rw [if_neg h32, if_neg h32]
          rfl
    · next hi =>
      rw [List.drop_of_length_le (by omega), lexW_nil]
      rfl
theorem dw_le (p : Nat → Bool) (l : List Nat) : (l.dropWhile p).length ≤ l.length := (List.dropWhile_sublist _).length_le
theorem lexW_fuel : ∀ {f g : Nat} {l : List Nat}, l.length ≤ f → l.length ≤ g → lexW f l = lexW g l
  | f, g, [], _, _ => by cases f <;> cases g <;> rfl
  | 0, _, c :: r, h, _ => absurd h (by simp)
  | _, 0, c :: r, _, h => absurd h (by simp)
  | f + 1, g + 1, c :: r, h1, h2 => by
    rw [List.length_cons] at h1 h2
    have hd := dw_le isSg r
    rw [lexW_cons, lexW_cons, lexW_fuel (f := f) (g := g) (l := r.dropWhile isSg) (by omega) (by omega), lexW_fuel (f := f) (g := g) (l := r) (by omega) (by omega)]
def lx (l : List Nat) : List Str := lexW l.length l
theorem lx_nil : lx [] = [] := rfl
theorem lx_sp (r : List Nat) : lx (32 :: r) = lx r := by
  show lexW (r.length + 1) (32 :: r) = _
  rw [lexW_cons, if_neg (by decide +kernel), if_pos rfl]
  rfl
theorem lx_odd {c : Nat} (h : isSg c = false) (h2 : c ≠ 32) (r : List Nat) : lx (c :: r) = mkS [c] :: lx r := by
  show lexW (r.length + 1) (c :: r) = _
  rw [lexW_cons, if_neg (by rw [h]; simp), if_neg h2]
  rfl
/-- nothing, or a sign that ends a word -/
def NS (r : List Nat) : Prop := ∀ c l, r = c :: l → isSg c = false
theorem NS.nil : NS [] := fun _ _ e => by cases e
theorem NS.cons {c : Nat} (h : isSg c = false) (l : List Nat) : NS (c :: l) := fun _ _ e => by
  cases e
  exact h
theorem tw_all {w r : List Nat} (h : w.all isSg = true) (n : NS r) : (w ++ r).takeWhile isSg = w ∧ (w ++ r).dropWhile isSg = r := by
  induction w with
  | nil =>
    cases r with
    | nil => exact ⟨rfl, rfl⟩
    | cons c l =>
      have := n c l rfl
      rw [List.nil_append, List.takeWhile_cons_of_neg (by rw [this]; simp), List.dropWhile_cons_of_neg (by rw [this]; simp)]
      exact ⟨rfl, rfl⟩
  | cons c w ih =>
    rw [List.all_cons, Bool.and_eq_true] at h
    obtain ⟨i1, i2⟩ := ih h.2
    rw [List.cons_append, List.takeWhile_cons_of_pos h.1, List.dropWhile_cons_of_pos h.1, i1, i2]
    exact ⟨rfl, rfl⟩
theorem lx_word {w r : List Nat} (h : w.all isSg = true) (hne : w ≠ []) (n : NS r) : lx (w ++ r) = mkS w :: lx r := by
  cases w with
  | nil => exact absurd rfl hne
  | cons c w =>
    rw [List.all_cons, Bool.and_eq_true] at h
    obtain ⟨i1, i2⟩ := tw_all h.2 n
    show lexW ((w ++ r).length + 1) (c :: (w ++ r)) = _
    rw [lexW_cons, if_pos h.1, i1, i2]
    rw [lexW_fuel (g := r.length) (by rw [List.length_append]; omega) (Nat.le_refl _)]
    rfl
/-! ### parts -/
/-- the part's words, whatever comes next that ends a word -/
def Pt (x : Str) (ws : List Str) : Prop := ∀ r, NS r → lx (tl x ++ r) = ws ++ lx r
/-- the part's words, whatever comes next -/
def Pu (x : Str) (ws : List Str) : Prop := ∀ r, lx (tl x ++ r) = ws ++ lx r
theorem Pu.pt {x : Str} {ws : List Str} (h : Pu x ws) : Pt x ws := fun r _ => h r
theorem Pu.app {x y : Str} {a b : List Str} (h : Pu x a) (k : Pu y b) : Pu (x ++ y) (a ++ b) := fun r => by
  rw [tl_append, List.append_assoc, h, k, List.append_assoc]
theorem Pu.appT {x y : Str} {a b : List Str} (h : Pu x a) (k : Pt y b) : Pt (x ++ y) (a ++ b) := fun r n => by
  rw [tl_append, List.append_assoc, h, k r n, List.append_assoc]
theorem NS.app {l : List Nat} (h : NS l) (hne : l ≠ []) (r : List Nat) : NS (l ++ r) := by
  cases l with
  | nil => exact absurd rfl hne
  | cons c l => exact NS.cons (h c l rfl) _
theorem Pt.app {x y : Str} {a b : List Str} (h : Pt x a) (n : NS (tl y)) (hne : tl y ≠ []) (k : Pu y b) : Pu (x ++ y) (a ++ b) := fun r => by
  rw [tl_append, List.append_assoc, h _ (n.app hne r), k, List.append_assoc]
theorem Pt.word {x : Str} (h : (tl x).all isSg = true) (hne : tl x ≠ []) : Pt x [x] := fun r n => lx_word h hne n
theorem Pt.nil : Pt Str.empty [] := fun r _ => rfl
theorem Pt.nil' : Pt "" [] := fun r _ => rfl
theorem Pu.sp : Pu " " [] := fun r => lx_sp r
theorem Pu.comma : Pu ", " [","] := fun r => by
  show lx (44 :: 32 :: r) = _
  rw [lx_odd (by decide +kernel) (by decide), lx_sp]
  rfl
theorem Pu.close : Pu ")" [")"] := fun r => by
  show lx (41 :: r) = _
  rw [lx_odd (by decide +kernel) (by decide)]
  rfl
theorem Pu.open : Pu "(" ["("] := fun r => by
  show lx (40 :: r) = _
  rw [lx_odd (by decide +kernel) (by decide)]
  rfl
theorem Pu.eq_ : Pu " = " ["="] := fun r => by
  show lx (32 :: 61 :: 32 :: r) = _
  rw [lx_sp, lx_odd (by decide +kernel) (by decide), lx_sp]
  rfl
theorem ns_sp : NS (tl (" " : Str)) := NS.cons (by decide +kernel) _
theorem ns_comma : NS (tl (", " : Str)) := NS.cons (by decide +kernel) _
theorem ns_close : NS (tl (")" : Str)) := NS.cons (by decide +kernel) _
theorem ns_open : NS (tl ("(" : Str)) := NS.cons (by decide +kernel) _
theorem ns_eq : NS (tl (" = " : Str)) := NS.cons (by decide +kernel) _
/-- joined words -/
def inter (sw : List Str) : List (List Str) → List Str
  | [] => []
  | a :: r => a ++ r.flatMap fun b => sw ++ b
theorem join_cons2 (sep a b : Str) (r : List Str) : Txt.join sep (a :: b :: r) = a ++ sep ++ Txt.join sep (b :: r) := by
  rw [join_eq, join_eq]
  rfl
theorem join_one (sep a : Str) : Txt.join sep [a] = a := by
  rw [join_eq]
  rfl
theorem Pt.join {α : Type} {sep : Str} {sw : List Str} (us : Pu sep sw) (n : NS (tl sep)) (hne : tl sep ≠ []) {f : α → Str} {g : α → List Str} : ∀ {l : List α}, (∀ a ∈ l, Pt (f a) (g a)) → Pt (Txt.join sep (l.map f)) (inter sw (l.map g))
  | [], _ => Pt.nil
  | [a], h => by
    rw [List.map_cons, List.map_nil, join_one]
    have := h a (List.mem_cons_self ..)
    show Pt (f a) (g a ++ [])
    rw [List.append_nil]
    exact this
  | a :: b :: r, h => by
    rw [List.map_cons, List.map_cons, join_cons2]
    have ih := Pt.join us n hne (f := f) (g := g) (l := b :: r) fun c hc => h c (List.mem_cons_of_mem _ hc)
    have := Pu.appT (Pt.app (h a (List.mem_cons_self ..)) n hne us) ih
    show Pt _ (g a ++ ((sw ++ g b) ++ ((r.map g).flatMap fun b => sw ++ b)))
    have e : g a ++ ((sw ++ g b) ++ ((r.map g).flatMap fun b => sw ++ b)) = (g a ++ sw) ++ inter sw ((b :: r).map g) := by
      show _ = (g a ++ sw) ++ (g b ++ ((r.map g).flatMap fun b => sw ++ b))
      simp only [List.append_assoc]
    rw [e]
    exact this
theorem inter_one {α : Type} (g : α → Str) : ∀ l : List α, inter [] (l.map fun a => [g a]) = l.map g
  | [] => rfl
  | a :: r => by
    show [g a] ++ ((r.map fun a => [g a]).flatMap fun b => [] ++ b) = g a :: r.map g
    have : ∀ r : List α, ((r.map fun a => [g a]).flatMap fun b => [] ++ b) = r.map g := fun r => by
      induction r with
      | nil => rfl
      | cons b r ih =>
        rw [List.map_cons, List.flatMap_cons, ih]
        rfl
    rw [this]
    rfl
/-! ### a line's tokens from a place on -/
def Sf (T : TkL) (p : Nat) (l : List Str) : Prop := ∀ i, tk T (p + i) = l.getD i ""
theorem Sf.hd {T : TkL} {p : Nat} {a : Str} {l : List Str} (h : Sf T p (a :: l)) : tk T p = a := h 0
theorem Sf.tl {T : TkL} {p : Nat} {a : Str} {l : List Str} (h : Sf T p (a :: l)) : Sf T (p + 1) l := fun i => by
  have := h (i + 1)
  rw [show p + 1 + i = p + (i + 1) by omega, this]
  rfl
theorem Sf.end_ {T : TkL} {p : Nat} (h : Sf T p []) : tk T p = "" := h 0
theorem Sf.skip {T : TkL} : ∀ {a : List Str} {p : Nat} {l : List Str}, Sf T p (a ++ l) → Sf T (p + a.length) l
  | [], _, _, h => h
  | b :: a, p, l, h => by
    have := Sf.skip (a := a) (Sf.tl h)
    rw [show p + (b :: a).length = p + 1 + a.length by rw [List.length_cons]; omega]
    exact this
theorem tk_toks (x : Str) (p : Nat) : tk (toks x) p = (lx (tl x)).getD p "" := by
  have e : (toks x).map (·.1) = lx (tl x) ++ ([""] : List Str) := by
    unfold toks
    rw [List.map_append, lexF_W, List.drop_zero]
    unfold lx
    rw [← len_tl]
    rfl
  have e2 : tk (toks x) p = ((toks x).map (·.1)).getD p ("" : Str) := by
    unfold tk
    rw [List.getD_eq_getElem?_getD, List.getD_eq_getElem?_getD, List.getElem?_map]
    cases (toks x)[p]? <;> rfl
  rw [e2, e, List.getD_eq_getElem?_getD, List.getD_eq_getElem?_getD]
  rcases Nat.lt_trichotomy p (lx (tl x)).length with h | h | h
  · rw [List.getElem?_append_left h]
  · rw [List.getElem?_append_right (by omega), h, Nat.sub_self, List.getElem?_eq_none (Nat.le_refl _)]
    rfl
  · rw [List.getElem?_eq_none (by rw [List.length_append]; show _ + 1 ≤ _; omega), List.getElem?_eq_none (by omega)]
theorem toks_len (x : Str) : (toks x).length = (lx (tl x)).length + 1 := by
  have e : (toks x).map (·.1) = lx (tl x) ++ ([""] : List Str) := by
    unfold toks
    rw [List.map_append, lexF_W, List.drop_zero]
    unfold lx
    rw [← len_tl]
    rfl
  have := congrArg List.length e
  rw [List.length_map, List.length_append] at this
  exact this
theorem Pt.sf {x : Str} {ws : List Str} (h : Pt x ws) : Sf (toks x) 0 ws ∧ (toks x).length = ws.length + 1 := by
  have e : lx (tl x) = ws := by
    have := h [] NS.nil
    rw [List.append_nil, lx_nil, List.append_nil] at this
    exact this
  refine ⟨fun i => ?_, ?_⟩
  · rw [tk_toks, e, Nat.zero_add]
  · rw [toks_len, e]
/-! ### what the readers give back -/
theorem lettersM_rt {T : TkL} : ∀ {ls : List Str} {f p r l : Nat} {acc rest : List Str}, Sf T p (ls ++ (")" : Str) :: rest) → (∀ x ∈ ls, letterM x = true ∧ x ≠ ")") → ls.length < f → l + ls.length ≤ 12 →
    lettersM T f acc ⟨p, r, l⟩ = .ok (acc ++ ls, ⟨p + ls.length, r, l + ls.length⟩)
  | ls, 0, _, _, _, _, _, _, _, h, _ => absurd h (Nat.not_lt_zero _)
  | [], f + 1, p, r, l, acc, rest, h, _, _, _ => by
    unfold lettersM
    rw [if_pos (show tk T p = ")" from h.hd), List.append_nil]
    rfl
  | x :: ls, f + 1, p, r, l, acc, rest, h, hx, hf, hl => by
    rw [List.length_cons] at hf hl
    obtain ⟨x1, x2⟩ := hx x (List.mem_cons_self ..)
    have e : tk T p = x := h.hd
    unfold lettersM
    show (if tk T p = ")" then _ else if (letterM (tk T p) && decide (l + 1 ≤ 12)) = true then lettersM T f (acc ++ [tk T p]) ⟨p + 1, r, l + 1⟩ else _) = _
    rw [e, if_neg x2, x1, decide_eq_true (by omega : l + 1 ≤ 12), if_pos (by rfl), lettersM_rt (ls := ls) (Sf.tl h) (fun y hy => hx y (List.mem_cons_of_mem _ hy)) (by omega) (by omega), List.append_assoc, List.length_cons]
    rw [show p + 1 + ls.length = p + (ls.length + 1) by omega, show l + 1 + ls.length = l + (ls.length + 1) by omega]
    rfl
/-- a reader gives back d, its words ws -/
structure Gives (T : TkL) (rd : PSt → Res PyData) (d : PyData) (ws : List Str) (a b : Nat) : Prop where
  run : ∀ {p r l : Nat} {rest : List Str}, Sf T p (ws ++ rest) → r + a ≤ 20 → l + b ≤ 12 → rd ⟨p, r, l⟩ = .ok (d, ⟨p + ws.length, r + a, l + b⟩)
  hd : ∃ w t, ws = w :: t ∧ w ≠ ")"
theorem partsM_rt {T : TkL} {rd : PSt → Res PyData} {g : PyData → List Str} {ca cb : PyData → Nat} : ∀ {ds : List PyData} {f p r l : Nat} {acc : List PyData} {rest : List Str}, (∀ d ∈ ds, Gives T rd d (g d) (ca d) (cb d)) → acc ≠ [] →
    Sf T p ((ds.map g).flatMap (fun b => ([","] : List Str) ++ b) ++ (")" : Str) :: rest) → ds.length < f → r + (ds.map ca).sum ≤ 20 → l + (ds.map cb).sum ≤ 12 →
    partsM T rd f acc ⟨p, r, l⟩ = .ok (acc ++ ds, ⟨p + ((ds.map g).flatMap (fun b => ([","] : List Str) ++ b)).length, r + (ds.map ca).sum, l + (ds.map cb).sum⟩)
  | ds, 0, _, _, _, _, _, _, _, _, h, _, _ => absurd h (Nat.not_lt_zero _)
  | [], f + 1, p, r, l, acc, rest, _, _, h, _, _, _ => by
    unfold partsM
    rw [if_pos (show tk T p = ")" from h.hd), List.append_nil]
    rfl
  | d :: ds, f + 1, p, r, l, acc, rest, hg, ha, h, hf, h20, h12 => by
    rw [List.length_cons] at hf
    rw [List.map_cons, List.sum_cons] at h20 h12
    have G := hg d (List.mem_cons_self ..)
    have h' : Sf T p ("," :: (g d ++ (((ds.map g).flatMap fun b => ([","] : List Str) ++ b) ++ (")" : Str) :: rest))) := by
      rw [List.map_cons, List.flatMap_cons] at h
      simpa only [List.append_assoc, List.cons_append, List.nil_append] using h
    have e : tk T p = "," := h'.hd
    unfold partsM
    show (if tk T p = ")" then _ else if acc = [] then _ else if tk T p = "," then (match rd ⟨p + 1, r, l⟩ with
      | .error c => .error c
      | .ok (d, s') => partsM T rd f (acc ++ [d]) s' : Res (List PyData)) else _) = _
    rw [e, if_neg (by decide +kernel), if_neg ha, if_pos rfl, G.run (Sf.tl h') (by omega) (by omega)]
    show partsM T rd f (acc ++ [d]) ⟨p + 1 + (g d).length, r + ca d, l + cb d⟩ = _
    rw [partsM_rt (ds := ds) (fun e he => hg e (List.mem_cons_of_mem _ he)) (by simp) (Sf.skip (Sf.tl h')) (by omega) (by omega) (by omega)]
    simp only [List.map_cons, List.sum_cons, List.flatMap_cons, List.length_append, List.append_assoc, List.cons_append, List.nil_append, List.length_cons, List.length_nil]
    rw [show p + 1 + (g d).length + ((ds.map g).flatMap fun b => ("," : Str) :: b).length = p + ((g d).length + ((ds.map g).flatMap fun b => ("," : Str) :: b).length + 1) by omega,
      show r + ca d + (ds.map ca).sum = r + (ca d + (ds.map ca).sum) by omega, show l + cb d + (ds.map cb).sum = l + (cb d + (ds.map cb).sum) by omega]
theorem parts_rt {T : TkL} {rd : PSt → Res PyData} {g : PyData → List Str} {ca cb : PyData → Nat} {ds : List PyData} {f p r l : Nat} {rest : List Str} (hg : ∀ d ∈ ds, Gives T rd d (g d) (ca d) (cb d))
    (h : Sf T p (inter ([","] : List Str) (ds.map g) ++ (")" : Str) :: rest)) (hf : ds.length < f) (h20 : r + (ds.map ca).sum ≤ 20) (h12 : l + (ds.map cb).sum ≤ 12) :
    partsM T rd f [] ⟨p, r, l⟩ = .ok (ds, ⟨p + (inter ([","] : List Str) (ds.map g)).length, r + (ds.map ca).sum, l + (ds.map cb).sum⟩) := by
  cases f with
  | zero => exact absurd hf (Nat.not_lt_zero _)
  | succ f =>
    cases ds with
    | nil =>
      unfold partsM
      rw [if_pos (show tk T p = ")" from h.hd)]
      rfl
    | cons d ds =>
      rw [List.length_cons] at hf
      rw [List.map_cons, List.sum_cons] at h20 h12
      have G := hg d (List.mem_cons_self ..)
      have h' : Sf T p (g d ++ (((ds.map g).flatMap fun b => ([","] : List Str) ++ b) ++ (")" : Str) :: rest)) := by
        rw [List.map_cons] at h
        have h2 : Sf T p ((g d ++ ((ds.map g).flatMap fun b => ([","] : List Str) ++ b)) ++ (")" : Str) :: rest) := h
        rw [List.append_assoc] at h2
        exact h2
      obtain ⟨w, t, ew, hw⟩ := G.hd
      have e : tk T p = w := by
        rw [ew] at h'
        exact h'.hd
      unfold partsM
      show (if tk T p = ")" then _ else if ([] : List PyData) = [] then (match rd ⟨p, r, l⟩ with
        | .error c => .error c
        | .ok (d, s') => partsM T rd f ([] ++ [d]) s' : Res (List PyData)) else _) = _
      rw [e, if_neg hw, if_pos rfl, G.run h' (by omega) (by omega)]
      show partsM T rd f ([] ++ [d]) ⟨p + (g d).length, r + ca d, l + cb d⟩ = _
      rw [partsM_rt (ds := ds) (fun e he => hg e (List.mem_cons_of_mem _ he)) (by simp) (Sf.skip h') (by omega) (by omega) (by omega)]
      simp only [inter, List.map_cons, List.sum_cons, List.length_append, List.cons_append, List.nil_append]
      rw [show p + (g d).length + ((ds.map g).flatMap fun b => ("," : Str) :: b).length = p + ((g d).length + ((ds.map g).flatMap fun b => ("," : Str) :: b).length) by omega,
        show r + ca d + (ds.map ca).sum = r + (ca d + (ds.map ca).sum) by omega, show l + cb d + (ds.map cb).sum = l + (cb d + (ds.map cb).sum) by omega]
/-! ### rules -/
/-- a rule's words -/
def rw_ : Nat → PyData → List Str
  | 0, _ => []
  | k + 1, d => match d with
    | .tuple [.str kd, e] => if kd = "word" then ("word" : Str) :: ("(" : Str) :: (strsD (kidsD e) ++ ([")"] : List Str)) else if kd = "again" then ("again" : Str) :: ("(" : Str) :: (rw_ k e ++ ([")"] : List Str)) else kd :: ("(" : Str) :: (inter ([","] : List Str) ((kidsD e).map (rw_ k)) ++ ([")"] : List Str))
    | _ => []
theorem rw_word (k : Nat) (ls : List Str) : rw_ (k + 1) (.tuple [.str "word", tupS ls]) = ("word" : Str) :: ("(" : Str) :: (ls ++ ([")"] : List Str)) := by
  show ("word" : Str) :: ("(" : Str) :: (strsD (ls.map PyData.str) ++ ([")"] : List Str)) = _
  rw [strsD_map]
theorem rw_again (k : Nat) (e : PyData) : rw_ (k + 1) (.tuple [.str "again", e]) = ("again" : Str) :: ("(" : Str) :: (rw_ k e ++ ([")"] : List Str)) := rfl
theorem rw_many (k : Nat) {kd : Str} (h : kd = "sequence" ∨ kd = "either") (ds : List PyData) : rw_ (k + 1) (.tuple [.str kd, .tuple ds]) = kd :: ("(" : Str) :: (inter ([","] : List Str) (ds.map (rw_ k)) ++ ([")"] : List Str)) := by
  rcases h with rfl | rfl <;> rfl
theorem Lts_word : ∀ l ∈ Lts, (tl l).all isSg = true ∧ tl l ≠ [] := by decide +kernel
theorem Lts_letter : ∀ l ∈ Lts, letterM l = true ∧ l ≠ ")" ∧ l ≠ "" ∧ l ≠ "," := by decide +kernel
theorem Pu.kind {kd : Str} (h : (tl kd).all isSg = true) (hne : tl kd ≠ []) : Pu (kd ++ "(") [kd, "("] := Pt.app (Pt.word h hne) ns_open (by decide +kernel) Pu.open
theorem pt_words {ls : List Str} (h : ∀ l ∈ ls, (tl l).all isSg = true ∧ tl l ≠ []) : Pt (Txt.join " " ls) ls := by
  have := Pt.join Pu.sp ns_sp (by decide +kernel) (f := fun x : Str => x) (g := fun x => [x]) (l := ls) fun l hl => Pt.word (h l hl).1 (h l hl).2
  rw [List.map_id', inter_one (fun x : Str => x), List.map_id'] at this
  exact this
theorem rule_pu : ∀ {k : Nat} {d : PyData}, RK k d → Pu (ruleX k d) (rw_ k d)
  | 0, _, z => z.elim
  | k + 1, d, z => by
    rcases z with ⟨ls, h1, h2, rfl⟩ | ⟨e, h1, rfl⟩ | ⟨kd, ds, h1, h2, h3, rfl⟩
    · rw [ruleX_word, rw_word]
      have := Pt.app (Pu.appT (Pu.kind (kd := "word") (by decide +kernel) (by decide +kernel)) (pt_words fun l hl => Lts_word l (h2 l hl))) ns_close (by decide +kernel) Pu.close
      exact this
    · rw [ruleX_again, rw_again]
      exact Pt.app (Pu.appT (Pu.kind (kd := "again") (by decide +kernel) (by decide +kernel)) (rule_pu h1).pt) ns_close (by decide +kernel) Pu.close
    · rw [ruleX_many k h1, rw_many k h1]
      have kk : (tl kd).all isSg = true ∧ tl kd ≠ [] := by rcases h1 with rfl | rfl <;> decide +kernel
      exact Pt.app (Pu.appT (Pu.kind kk.1 kk.2) (Pt.join Pu.comma ns_comma (by decide +kernel) fun e he => (rule_pu (h3 e he)).pt)) ns_close (by decide +kernel) Pu.close
theorem rw_hd : ∀ {k : Nat} {d : PyData}, RK k d → ∃ w t, rw_ k d = w :: t ∧ w ∈ kinds
  | 0, _, z => z.elim
  | k + 1, d, z => by
    rcases z with ⟨ls, h1, h2, rfl⟩ | ⟨e, h1, rfl⟩ | ⟨kd, ds, h1, h2, h3, rfl⟩
    · exact ⟨"word", _, rw_word k ls, by decide +kernel⟩
    · exact ⟨"again", _, rw_again k e, by decide +kernel⟩
    · exact ⟨kd, _, rw_many k h1 ds, by rcases h1 with rfl | rfl <;> decide +kernel⟩
theorem kinds_ne3 : ∀ w ∈ kinds, w ≠ ")" ∧ w ≠ "," ∧ w ≠ "" := by decide +kernel
theorem cntR_word (k : Nat) (ls : List Str) : cntR (k + 1) (.tuple [.str "word", tupS ls]) = 1 ∧ letR (k + 1) (.tuple [.str "word", tupS ls]) = ls.length := by
  refine ⟨rfl, ?_⟩
  show (kidsD (tupS ls)).length = _
  show (ls.map PyData.str).length = _
  rw [List.length_map]
theorem cntR_many (k : Nat) {kd : Str} (h : kd = "sequence" ∨ kd = "either") (ds : List PyData) : cntR (k + 1) (.tuple [.str kd, .tuple ds]) = 1 + (ds.map (cntR k)).sum ∧ letR (k + 1) (.tuple [.str kd, .tuple ds]) = (ds.map (letR k)).sum := by
  rcases h with rfl | rfl <;> exact ⟨rfl, rfl⟩
theorem rule_gives {T : TkL} (hT : 4 ≤ T.length) : ∀ {k K : Nat} {d : PyData}, RK k d → k ≤ K → Gives T (ruleM T K) d (rw_ k d) (cntR k d) (letR k d)
  | 0, _, _, z, _ => z.elim
  | k + 1, 0, _, _, h => absurd h (by omega)
  | k + 1, K + 1, d, z, hK => by
    obtain ⟨w0, t0, ew, hw⟩ := rw_hd z
    refine ⟨fun {p r l rest} h h20 h12 => ?_, ⟨w0, t0, ew, (kinds_ne3 _ hw).1⟩⟩
    rcases z with ⟨ls, h1, h2, rfl⟩ | ⟨e, h1, rfl⟩ | ⟨kd, ds, h1, h2, h3, rfl⟩
    · rw [(cntR_word k ls).1] at h20 ⊢
      rw [(cntR_word k ls).2] at h12 ⊢
      rw [rw_word] at h ⊢
      have h' : Sf T p (("word" : Str) :: ("(" : Str) :: (ls ++ (")" : Str) :: rest)) := by simpa only [List.append_assoc, List.cons_append, List.nil_append] using h
      have e0 : tk T p = "word" := h'.hd
      have e1 : tk T (p + 1) = "(" := h'.tl.hd
      have e2 := h'.tl.tl.skip.hd
      have run := lettersM_rt (T := T) (f := T.length) (r := r + 1) (l := l) (acc := []) h'.tl.tl (fun x hx => ⟨(Lts_letter x (h2 x hx)).1, (Lts_letter x (h2 x hx)).2.1⟩) (by omega) h12
      unfold ruleM
      show (if (kinds.contains (tk T p) && decide (r + 1 ≤ 20)) = true then (if tk T (p + 1) = "(" then _ else _) else _) = _
      rw [e0, decide_eq_true h20, if_pos (by decide +kernel), if_pos e1]
      unfold bodyM
      rw [if_pos rfl]
      show (match (match lettersM T T.length [] ⟨p + 1 + 1, r + 1, l⟩ with
        | .error c => .error c
        | .ok (ls, s') => .ok (tupS ls, s') : Res PyData) with
        | .error c => .error c
        | .ok (d, s') => if tk T s'.p = ")" then .ok (.tuple [.str "word", d], ⟨s'.p + 1, s'.r, s'.l⟩) else .error (cl T s'.p) : Res PyData) = _
      rw [run]
      show (if tk T (p + 1 + 1 + ls.length) = ")" then _ else _) = _
      rw [if_pos e2]
      simp only [List.length_cons, List.length_append, List.length_nil, List.nil_append]
      rw [show p + 1 + 1 + ls.length + 1 = p + (ls.length + (0 + 1) + 1 + 1) by omega]
    · have c1 : cntR (k + 1) (.tuple [.str "again", e]) = 1 + cntR k e := rfl
      have c2 : letR (k + 1) (.tuple [.str "again", e]) = letR k e := rfl
      rw [c1] at h20 ⊢
      rw [c2] at h12 ⊢
      rw [rw_again] at h ⊢
      have h' : Sf T p (("again" : Str) :: ("(" : Str) :: (rw_ k e ++ (")" : Str) :: rest)) := by simpa only [List.append_assoc, List.cons_append, List.nil_append] using h
      have e0 : tk T p = "again" := h'.hd
      have e1 : tk T (p + 1) = "(" := h'.tl.hd
      have e2 := h'.tl.tl.skip.hd
      have run := (rule_gives hT h1 (by omega : k ≤ K)).run h'.tl.tl (r := r + 1) (l := l) (by omega) h12
      unfold ruleM
      show (if (kinds.contains (tk T p) && decide (r + 1 ≤ 20)) = true then (if tk T (p + 1) = "(" then _ else _) else _) = _
      rw [e0, decide_eq_true (by omega : r + 1 ≤ 20), if_pos (by decide +kernel), if_pos e1]
      unfold bodyM
      rw [if_neg (by decide +kernel), if_pos rfl]
      show (match ruleM T K ⟨p + 1 + 1, r + 1, l⟩ with
        | .error c => .error c
        | .ok (d, s') => if tk T s'.p = ")" then .ok (.tuple [.str "again", d], ⟨s'.p + 1, s'.r, s'.l⟩) else .error (cl T s'.p) : Res PyData) = _
      rw [run]
      show (if tk T (p + 1 + 1 + (rw_ k e).length) = ")" then _ else _) = _
      rw [if_pos e2]
      simp only [List.length_cons, List.length_append, List.length_nil]
      rw [show p + 1 + 1 + (rw_ k e).length + 1 = p + ((rw_ k e).length + (0 + 1) + 1 + 1) by omega, show r + 1 + cntR k e = r + (1 + cntR k e) by omega]
    · rw [(cntR_many k h1 ds).1] at h20 ⊢
      rw [(cntR_many k h1 ds).2] at h12 ⊢
      rw [rw_many k h1] at h ⊢
      have h' : Sf T p (kd :: ("(" : Str) :: (inter ([","] : List Str) (ds.map (rw_ k)) ++ (")" : Str) :: rest)) := by simpa only [List.append_assoc, List.cons_append, List.nil_append] using h
      have e0 : tk T p = kd := h'.hd
      have e1 : tk T (p + 1) = "(" := h'.tl.hd
      have e2 := h'.tl.tl.skip.hd
      have run := parts_rt (T := T) (ca := cntR k) (cb := letR k) (g := rw_ k) (f := T.length) (r := r + 1) (l := l) (fun d hd => rule_gives hT (h3 d hd) (by omega : k ≤ K)) h'.tl.tl (by omega) (by omega) h12
      have kk : kinds.contains kd = true ∧ kd ≠ "word" ∧ kd ≠ "again" := by rcases h1 with rfl | rfl <;> decide +kernel
      unfold ruleM
      show (if (kinds.contains (tk T p) && decide (r + 1 ≤ 20)) = true then (if tk T (p + 1) = "(" then _ else _) else _) = _
      rw [e0, decide_eq_true (by omega : r + 1 ≤ 20), kk.1, if_pos (by rfl), if_pos e1]
      unfold bodyM
      rw [if_neg kk.2.1, if_neg kk.2.2]
      show (match (match partsM T (ruleM T K) T.length [] ⟨p + 1 + 1, r + 1, l⟩ with
        | .error c => .error c
        | .ok (ds, s') => .ok (.tuple ds, s') : Res PyData) with
        | .error c => .error c
        | .ok (d, s') => if tk T s'.p = ")" then .ok (.tuple [.str kd, d], ⟨s'.p + 1, s'.r, s'.l⟩) else .error (cl T s'.p) : Res PyData) = _
      rw [run]
      show (if tk T (p + 1 + 1 + (inter ([","] : List Str) (ds.map (rw_ k))).length) = ")" then _ else _) = _
      rw [if_pos e2]
      simp only [List.length_cons, List.length_append, List.length_nil]
      rw [show p + 1 + 1 + (inter ([","] : List Str) (ds.map (rw_ k))).length + 1 = p + ((inter ([","] : List Str) (ds.map (rw_ k))).length + (0 + 1) + 1 + 1) by omega, show r + 1 + (ds.map (cntR k)).sum = r + (1 + (ds.map (cntR k)).sum) by omega]
theorem whole_rt {T : TkL} {p : Nat} {d : PyData} (hT : 4 ≤ T.length) (h : Sf T p (rw_ 4 d)) (ok : RuleOk d) : wholeM T p = .ok d := by
  have h0 : Sf T p (rw_ 4 d ++ []) := by
    rw [List.append_nil]
    exact h
  have run := (rule_gives hT ok.1 (by decide : 4 ≤ 8)).run h0 (r := 0) (l := 0) (by have := ok.2.1; omega) (by have := ok.2.2; omega)
  unfold wholeM
  rw [run]
  show (if tk T (p + (rw_ 4 d).length) = "" then _ else _) = _
  rw [if_pos h0.skip.end_]
theorem rw_len : ∀ {k : Nat} {d : PyData}, RK k d → 3 ≤ (rw_ k d).length
  | 0, _, z => z.elim
  | k + 1, d, z => by
    rcases z with ⟨ls, h1, h2, rfl⟩ | ⟨e, h1, rfl⟩ | ⟨kd, ds, h1, h2, h3, rfl⟩
    · rw [rw_word]
      simp only [List.length_cons, List.length_append, List.length_nil]
      omega
    · rw [rw_again]
      simp only [List.length_cons, List.length_append, List.length_nil]
      omega
    · rw [rw_many k h1]
      simp only [List.length_cons, List.length_append, List.length_nil]
      omega
end T65
end
section
/-! Pd: every drawn thing's text is read as the thing. -/
namespace T65
open PySem PySem.W TL
/-! ### numbers -/
theorem numL_head : ∀ (n : Nat), (numL n)[0]? = some 48 → n = 0 := by
  intro n
  induction n using Nat.strongRecOn with
  | _ n ih =>
    intro h
    by_cases hn : n < 10
    · rw [numL_lt hn] at h
      simp at h
      omega
    · rw [numL_step (by omega), List.getElem?_append_left (List.length_pos_iff.mpr (numL_ne _))] at h
      have := ih (n / 10) (by omega) h
      omega
theorem tl_numS (n : Nat) : tl (numS n) = numL n := tl_num n
theorem numL_fg (n : Nat) : (numL n).all isFg = true := List.all_eq_true.mpr fun c hc => (fg_iff c).mpr (numL_digits n c hc)
theorem figs_num {n m : Nat} (h : n ≤ m) (h8 : n < 10 ^ 8) : figsM (numS n) m = some n := by
  have l1 : 1 ≤ (numS n).length := by
    rw [len_tl, tl_numS]
    exact List.length_pos_iff.mpr (numL_ne n)
  have l2 : (numS n).length ≤ 8 := by
    rw [len_tl, tl_numS]
    exact numL_len (by decide) h8
  rw [figs_yes l1 l2 (by rw [tl_numS]; exact numL_fg n), tl_numS, numL_val, if_neg, if_pos h]
  rintro ⟨z1, z2⟩
  have n0 := numL_head n z1
  subst n0
  exact z2 ((str0 _).mpr (by rw [tl_numS, numL_lt (by decide)]))
theorem num_word (n : Nat) : (tl (numS n)).all isSg = true ∧ tl (numS n) ≠ [] := by
  rw [tl_numS]
  refine ⟨List.all_eq_true.mpr fun c hc => (sg_iff c).mpr (.inr (.inl (numL_digits n c hc))), numL_ne n⟩
theorem ne_emp {x : Str} (h : tl x ≠ []) : x ≠ "" := fun e => h (by rw [e]; rfl)
theorem num_ne (n : Nat) : numS n ≠ "" := ne_emp (num_word n).2
/-! ### words, positions -/
theorem wordM_rt {T : TkL} : ∀ {ls : List Str} {f p : Nat} {acc : List Str}, Sf T p ls → (∀ x ∈ ls, letterM x = true ∧ x ≠ "") → ls.length < f → acc.length + ls.length ≤ 30 → wordM T f acc p = .ok (acc ++ ls)
  | ls, 0, _, _, _, _, h, _ => absurd h (Nat.not_lt_zero _)
  | [], f + 1, p, acc, h, _, _, _ => by
    unfold wordM
    rw [if_pos h.end_, List.append_nil]
  | x :: ls, f + 1, p, acc, h, hx, hf, hl => by
    rw [List.length_cons] at hf hl
    obtain ⟨x1, x2⟩ := hx x (List.mem_cons_self ..)
    have e : tk T p = x := h.hd
    unfold wordM
    rw [e, if_neg x2, x1, decide_eq_true (by omega : acc.length < 30), if_pos (by rfl), wordM_rt (ls := ls) h.tl (fun y hy => hx y (List.mem_cons_of_mem _ hy)) (by omega) (by rw [List.length_append]; show acc.length + 1 + _ ≤ _; omega), List.append_assoc]
    rfl
theorem posM_rt {T : TkL} : ∀ {ns : List Nat} {f p : Nat} {acc : List Nat}, Sf T p (ns.map numS) → (∀ n ∈ ns, n ≤ 30) → ns.length < f → posM T f acc p = .ok (acc ++ ns)
  | ns, 0, _, _, _, _, h => absurd h (Nat.not_lt_zero _)
  | [], f + 1, p, acc, h, _, _ => by
    unfold posM
    rw [if_pos h.end_, List.append_nil]
  | n :: ns, f + 1, p, acc, h, hn, hf => by
    rw [List.length_cons] at hf
    have hn1 := hn n (List.mem_cons_self ..)
    rw [List.map_cons] at h
    have e : tk T p = numS n := h.hd
    unfold posM
    rw [e, if_neg (num_ne n), figs_num hn1 (by omega)]
    show posM T f (acc ++ [n]) (p + 1) = _
    rw [posM_rt (ns := ns) h.tl (fun y hy => hn y (List.mem_cons_of_mem _ hy)) (by omega), List.append_assoc]
    rfl
theorem pt_nums (ns : List Nat) : Pt (posX ns) (ns.map numS) := pt_words fun x hx => by
  obtain ⟨n, _, rfl⟩ := List.mem_map.mp hx
  exact num_word n
/-! ### routes -/
def stepW : PyData → List Str
  | .tuple [.int a, .int b, e] => [Str.ofString (toString a), Str.ofString (toString b), nmX e]
  | _ => []
theorem step_name {e : PyData} (h : e = .str "a" ∨ e = .str "xy" ∨ e = .str "abcdefgh" ∨ e = .int 0 ∨ e = .int 7 ∨ e = .int 9999) : ((tl (nmX e)).all isSg = true ∧ tl (nmX e) ≠ []) ∧ nameD (nmX e) = some e := by
  have hs : ∀ x : Str, figsM x 9999 = none → nameM x = true → (tl x).all isSg = true → tl x ≠ [] → ((tl (nmX (.str x))).all isSg = true ∧ tl (nmX (.str x)) ≠ []) ∧ nameD (nmX (.str x)) = some (.str x) := fun x h1 h2 h3 h4 => by
    refine ⟨⟨h3, h4⟩, ?_⟩
    show nameD x = _
    unfold nameD
    rw [h1, h2]
    rfl
  have hi : ∀ n : Nat, n ≤ 9999 → ((tl (nmX (.int (n : Nat)))).all isSg = true ∧ tl (nmX (.int (n : Nat))) ≠ []) ∧ nameD (nmX (.int (n : Nat))) = some (.int (n : Nat)) := fun n hn => by
    refine ⟨num_word n, ?_⟩
    show nameD (numS n) = _
    unfold nameD
    rw [figs_num hn (by omega)]
  rcases h with rfl | rfl | rfl | rfl | rfl | rfl
  · exact hs _ (by decide +kernel) (by decide +kernel) (by decide +kernel) (by decide +kernel)
  · exact hs _ (by decide +kernel) (by decide +kernel) (by decide +kernel) (by decide +kernel)
  · exact hs _ (by decide +kernel) (by decide +kernel) (by decide +kernel) (by decide +kernel)
  · exact hi 0 (by decide)
  · exact hi 7 (by decide)
  · exact hi 9999 (by decide)
theorem step_pt {d : PyData} (z : StepOk d) : Pt (stepX d) (stepW d) := by
  obtain ⟨a, b, e, _, _, he, rfl⟩ := z
  obtain ⟨⟨n1, n2⟩, _⟩ := step_name he
  rw [stepX_eq]
  have p1 := Pt.app (Pt.word (num_word a).1 (num_word a).2) ns_sp (by decide +kernel) Pu.sp
  have p2 := Pt.app (Pu.appT p1 (Pt.word (num_word b).1 (num_word b).2)) ns_sp (by decide +kernel) Pu.sp
  exact Pu.appT p2 (Pt.word n1 n2)
theorem stepM_rt {T : TkL} {p : Nat} {d : PyData} {rest : List Str} (z : StepOk d) (h : Sf T p (stepW d ++ rest)) : stepM T p = .ok d := by
  obtain ⟨a, b, e, ha, hb, he, rfl⟩ := z
  obtain ⟨_, n3⟩ := step_name he
  have h' : Sf T p (numS a :: numS b :: nmX e :: rest) := h
  have e0 : tk T p = numS a := h'.hd
  have e1 : tk T (p + 1) = numS b := h'.tl.hd
  have e2 : tk T (p + 2) = nmX e := h'.tl.tl.hd
  unfold stepM
  rw [e0, e1, e2, figs_num ha (by omega), figs_num hb (by omega), n3]
theorem stepW_len {d : PyData} (z : StepOk d) : (stepW d).length = 3 ∧ ∃ w t, stepW d = w :: t ∧ w ≠ "" := by
  obtain ⟨a, b, e, ha, hb, he, rfl⟩ := z
  exact ⟨rfl, numS a, _, rfl, num_ne a⟩
theorem routeM_more {T : TkL} : ∀ {ds : List PyData} {f p : Nat} {acc : List PyData}, Sf T p ((ds.map stepW).flatMap fun b => ([","] : List Str) ++ b) → (∀ d ∈ ds, StepOk d) → acc ≠ [] → ds.length < f → acc.length + ds.length ≤ 60 → routeM T f acc p = .ok (acc ++ ds)
  | ds, 0, _, _, _, _, _, h, _ => absurd h (Nat.not_lt_zero _)
  | [], f + 1, p, acc, h, _, _, _, _ => by
    unfold routeM
    rw [if_pos h.end_, List.append_nil]
  | d :: ds, f + 1, p, acc, h, hd, ha, hf, hl => by
    rw [List.length_cons] at hf hl
    have z := hd d (List.mem_cons_self ..)
    have h' : Sf T p ("," :: (stepW d ++ ((ds.map stepW).flatMap fun b => ([","] : List Str) ++ b))) := by
      rw [List.map_cons, List.flatMap_cons] at h
      simpa only [List.append_assoc, List.cons_append, List.nil_append] using h
    have e : tk T p = "," := h'.hd
    unfold routeM
    rw [e, if_neg (by decide +kernel), if_neg ha, if_pos rfl, if_neg (by omega), stepM_rt z h'.tl]
    show routeM T f (acc ++ [d]) (p + 4) = _
    have h2 := h'.tl.skip
    rw [(stepW_len z).1] at h2
    rw [routeM_more (ds := ds) h2 (fun y hy => hd y (List.mem_cons_of_mem _ hy)) (by simp) (by omega) (by rw [List.length_append]; show acc.length + 1 + _ ≤ _; omega), List.append_assoc]
    rfl
theorem routeM_rt {T : TkL} {ds : List PyData} {f : Nat} (h : Sf T 0 (inter ([","] : List Str) (ds.map stepW))) (hd : ∀ d ∈ ds, StepOk d) (hf : ds.length < f) (hl : ds.length ≤ 60) : routeM T f [] 0 = .ok ds := by
  cases f with
  | zero => exact absurd hf (Nat.not_lt_zero _)
  | succ f =>
    cases ds with
    | nil =>
      unfold routeM
      rw [if_pos (Sf.end_ h)]
    | cons d ds =>
      rw [List.length_cons] at hf hl
      have z := hd d (List.mem_cons_self ..)
      have h' : Sf T 0 (stepW d ++ ((ds.map stepW).flatMap fun b => ([","] : List Str) ++ b)) := h
      obtain ⟨l3, w, t, ew, hw⟩ := stepW_len z
      have e : tk T 0 = w := by
        rw [ew] at h'
        exact h'.hd
      unfold routeM
      rw [e, if_neg hw, if_pos rfl, stepM_rt z h']
      show routeM T f [d] (0 + 3) = _
      have h2 := h'.skip
      rw [l3] at h2
      rw [routeM_more (ds := ds) h2 (fun y hy => hd y (List.mem_cons_of_mem _ hy)) (by simp) (by omega) (by show 1 + _ ≤ _; omega)]
      rfl
/-! ### lines -/
theorem lines_join {parts : List Str} (hne : parts ≠ []) (h10 : ∀ x ∈ parts, 10 ∉ tl x) : Txt.split (Txt.join "\n" parts) "\n" = parts :=
  split_join zNl (by decide +kernel) hne h10
theorem fullL_all : ∀ {l : List Str} {k : Nat}, (∀ x ∈ l, tk (toks x) 0 ≠ "") → fullL (linesOf k l) = linesOf k l
  | [], _, _ => rfl
  | y :: r, k, h => by
    have ih := fullL_all (l := r) (k := k + 1) fun x hx => h x (List.mem_cons_of_mem _ hx)
    unfold fullL at ih ⊢
    show List.filter _ ((toks y, k + 1) :: linesOf (k + 1) r) = _
    rw [List.filter_cons_of_pos (by
      show (!decide (tk (toks y) 0 = "")) = true
      rw [decide_eq_false (h y (List.mem_cons_self ..))]
      rfl), ih]
    rfl
theorem nms_word : ∀ n ∈ nms, ((tl n).all isSg = true ∧ tl n ≠ []) ∧ nameM n = true ∧ n ≠ "" := by decide +kernel
theorem entry_sf {q : Str × PyData} (h1 : q.1 ∈ nms) (h2 : RuleOk q.2) : Sf (toks (q.1 ++ " = " ++ ruleX 4 q.2)) 0 (q.1 :: "=" :: rw_ 4 q.2) ∧ 4 ≤ (toks (q.1 ++ " = " ++ ruleX 4 q.2)).length := by
  obtain ⟨⟨a, b⟩, _, _⟩ := nms_word q.1 h1
  have p := Pu.app (Pt.app (Pt.word a b) ns_eq (by decide +kernel) Pu.eq_) (rule_pu h2.1)
  have s := p.pt.sf
  refine ⟨s.1, ?_⟩
  rw [s.2, List.length_append]
  have := rw_len h2.1
  omega
theorem bookM_rt : ∀ {nds : List (Str × PyData)} {k : Nat} {acc : List (Str × PyData)}, (∀ q ∈ nds, q.1 ∈ nms ∧ RuleOk q.2) → ((acc ++ nds).map (·.1)).Nodup → acc.length + nds.length ≤ 8 →
    bookM (linesOf k (nds.map fun q => q.1 ++ " = " ++ ruleX 4 q.2)) acc = .ok (acc ++ nds)
  | [], k, acc, _, _, _ => by
    rw [List.append_nil]
    rfl
  | q :: nds, k, acc, h, hn, hl => by
    rw [List.length_cons] at hl
    obtain ⟨h1, h2⟩ := h q (List.mem_cons_self ..)
    obtain ⟨_, nm, _⟩ := nms_word q.1 h1
    obtain ⟨s, l4⟩ := entry_sf h1 h2
    have e0 := s.hd
    have e1 := s.tl.hd
    have fresh : q.1 ∉ acc.map (·.1) := fun z => by
      rw [List.map_append] at hn
      exact (List.nodup_append.mp hn).2.2 q.1 z q.1 (by simp) rfl
    show bookM ((toks (q.1 ++ " = " ++ ruleX 4 q.2), k + 1) :: linesOf (k + 1) (nds.map fun q => q.1 ++ " = " ++ ruleX 4 q.2)) acc = _
    unfold bookM
    have c1 : (nameM (tk (toks (q.1 ++ " = " ++ ruleX 4 q.2)) 0) && !decide (tk (toks (q.1 ++ " = " ++ ruleX 4 q.2)) 0 ∈ acc.map (·.1)) && decide (acc.length < 8)) = true := by
      rw [e0, nm, decide_eq_false fresh, decide_eq_true (by omega : acc.length < 8)]
      rfl
    rw [if_pos c1, if_pos (show tk (toks (q.1 ++ " = " ++ ruleX 4 q.2)) 1 = "=" from e1), whole_rt l4 s.tl.tl h2, e0]
    show bookM _ (acc ++ [q]) = _
    rw [bookM_rt (nds := nds) (fun r hr => h r (List.mem_cons_of_mem _ hr)) (by rw [List.append_assoc]; exact hn) (by rw [List.length_append]; show acc.length + 1 + _ ≤ _; omega), List.append_assoc]
    rfl
theorem getD_last (acc : List Nat) (n : Nat) : (acc ++ [n]).getD ((acc ++ [n]).length - 1) 0 = n := by
  rw [List.length_append, List.getD_eq_getElem?_getD, show acc.length + [n].length - 1 = acc.length by simp, List.getElem?_append_right (Nat.le_refl _), Nat.sub_self]
  rfl
theorem placesM_rt {T : TkL} : ∀ {ns : List Nat} {f p : Nat} {acc : List Nat}, Sf T p (ns.map numS) → (∀ n ∈ ns, n ≤ 1000000) → (acc ++ ns).Pairwise (· < ·) → ns.length < f → acc.length + ns.length ≤ 64 → placesM T f acc p = .ok (acc ++ ns)
  | ns, 0, _, _, _, _, _, h, _ => absurd h (Nat.not_lt_zero _)
  | [], f + 1, p, acc, h, _, _, _, _ => by
    unfold placesM
    rw [if_pos h.end_, List.append_nil]
  | n :: ns, f + 1, p, acc, h, hn, hp, hf, hl => by
    rw [List.length_cons] at hf hl
    have hn1 := hn n (List.mem_cons_self ..)
    rw [List.map_cons] at h
    have e : tk T p = numS n := h.hd
    have up : acc = [] ∨ acc.getD (acc.length - 1) 0 < n := by
      by_cases z : acc = []
      · exact .inl z
      · refine .inr ?_
        have hlt : acc.length - 1 < acc.length := by
          have := List.length_pos_iff.mpr z
          omega
        rw [List.getD_eq_getElem?_getD, List.getElem?_eq_getElem hlt]
        exact (List.pairwise_append.mp hp).2.2 _ (List.getElem_mem hlt) n (List.mem_cons_self ..)
    unfold placesM
    rw [e, if_neg (num_ne n), figs_num hn1 (by omega)]
    show (if (acc = [] ∨ acc.getD (acc.length - 1) 0 < n) ∧ acc.length < 64 then placesM T f (acc ++ [n]) (p + 1) else _) = _
    rw [if_pos ⟨up, by omega⟩, placesM_rt (ns := ns) h.tl (fun y hy => hn y (List.mem_cons_of_mem _ hy)) (by rw [List.append_assoc]; exact hp) (by omega) (by rw [List.length_append]; show acc.length + 1 + _ ≤ _; omega), List.append_assoc]
    rfl
theorem places_sf (ns : List Nat) : Sf (toks (placesX ns)) 0 ("places" :: ns.map numS) ∧ (toks (placesX ns)).length = ns.length + 2 := by
  have p : Pt (placesX ns) ("places" :: ns.map numS) := pt_words fun x hx => by
    rcases List.mem_cons.mp hx with rfl | hx
    · decide +kernel
    · obtain ⟨n, _, rfl⟩ := List.mem_map.mp hx
      exact num_word n
  refine ⟨p.sf.1, ?_⟩
  rw [p.sf.2, List.length_cons, List.length_map]
theorem road_sf {ps : List Nat} {l : Str} {a b c : Nat} (hl : l ∈ Lts) : Sf (toks (roadX (.tuple [.str l, .int a, .int b, .int c]))) 0 ["road", l, numS a, numS b, numS c] := by
  have hw := Lts_word l hl
  have pr : Pu ("road " : Str) ["road"] := fun r => by
    have := (Pt.app (Pt.word (x := "road") (by decide +kernel) (by decide +kernel)) ns_sp (by decide +kernel) Pu.sp) r
    exact this
  have p1 := Pt.app (Pu.appT pr (Pt.word hw.1 hw.2)) ns_sp (by decide +kernel) Pu.sp
  have p2 := Pt.app (Pu.appT p1 (Pt.word (num_word a).1 (num_word a).2)) ns_sp (by decide +kernel) Pu.sp
  have p3 := Pt.app (Pu.appT p2 (Pt.word (num_word b).1 (num_word b).2)) ns_sp (by decide +kernel) Pu.sp
  have p4 := Pu.appT p3 (Pt.word (num_word c).1 (num_word c).2)
  exact p4.sf.1
theorem road_rt {ps : List Nat} {d : PyData} (z : RoadOk ps d) (hp : ∀ n ∈ ps, n ≤ 1000000) : roadM ps (toks (roadX d)) = .ok d ∧ tk (toks (roadX d)) 0 = "road" := by
  obtain ⟨l, a, b, c, hl, ha, hb, hc, rfl⟩ := z
  have s := road_sf (ps := ps) (l := l) (a := a) (b := b) (c := c) hl
  have e0 := s.hd
  have e1 : tk (toks (roadX (.tuple [.str l, .int a, .int b, .int c]))) 1 = l := s.tl.hd
  have e2 : tk (toks (roadX (.tuple [.str l, .int a, .int b, .int c]))) 2 = numS a := s.tl.tl.hd
  have e3 : tk (toks (roadX (.tuple [.str l, .int a, .int b, .int c]))) 3 = numS b := s.tl.tl.tl.hd
  have e4 : tk (toks (roadX (.tuple [.str l, .int a, .int b, .int c]))) 4 = numS c := s.tl.tl.tl.tl.hd
  have e5 : tk (toks (roadX (.tuple [.str l, .int a, .int b, .int c]))) 5 = "" := s.tl.tl.tl.tl.tl.end_
  refine ⟨?_, e0⟩
  have pl : ∀ n ∈ ps, placeM ps (numS n) = some n := fun n hn => by
    have := hp n hn
    unfold placeM
    rw [figs_num this (by omega)]
    show (if n ∈ ps then some n else none) = _
    rw [if_pos hn]
  unfold roadM
  rw [e1, e2, e3, e4, if_pos (Lts_letter l hl).1, pl a ha, pl b hb, figs_num hc (by omega)]
  show (if tk _ 5 = "" then _ else _) = _
  rw [if_pos e5]
theorem roadsM_rt {ps : List Nat} (hp : ∀ n ∈ ps, n ≤ 1000000) : ∀ {ds : List PyData} {k : Nat} {acc : List PyData}, (∀ d ∈ ds, RoadOk ps d) → acc.length + ds.length ≤ 200 → roadsM ps (linesOf k (ds.map roadX)) acc = .ok (acc ++ ds)
  | [], k, acc, _, _ => by
    rw [List.append_nil]
    rfl
  | d :: ds, k, acc, h, hl => by
    rw [List.length_cons] at hl
    obtain ⟨r1, r2⟩ := road_rt (h d (List.mem_cons_self ..)) hp
    show roadsM ps ((toks (roadX d), k + 1) :: linesOf (k + 1) (ds.map roadX)) acc = _
    unfold roadsM
    rw [if_pos ⟨r2, by omega⟩, r1]
    show roadsM ps _ (acc ++ [d]) = _
    rw [roadsM_rt hp (ds := ds) (fun r hr => h r (List.mem_cons_of_mem _ hr)) (by rw [List.length_append]; show acc.length + 1 + _ ≤ _; omega), List.append_assoc]
    rfl
/-! ### all six -/
theorem inter_len (ds : List PyData) (h : ∀ d ∈ ds, StepOk d) : ds.length ≤ (inter ([","] : List Str) (ds.map stepW)).length := by
  cases ds with
  | nil => exact Nat.zero_le _
  | cons d r =>
    have more : ∀ r : List PyData, r.length ≤ ((r.map stepW).flatMap fun b => ([","] : List Str) ++ b).length := fun r => by
      induction r with
      | nil => exact Nat.zero_le _
      | cons e r ih =>
        rw [List.map_cons, List.flatMap_cons, List.length_append, List.length_append, List.length_cons]
        show r.length + 1 ≤ 1 + _ + _
        omega
    have l3 := (stepW_len (h d (List.mem_cons_self ..))).1
    have := more r
    show r.length + 1 ≤ (stepW d ++ ((r.map stepW).flatMap fun b => ([","] : List Str) ++ b)).length
    rw [List.length_append]
    omega
theorem way_rt {t : Th} (h : t.ok) : readM t.way t.text = .ok t.data := by
  cases t with
  | rule d =>
    have s := (rule_pu h.1).pt.sf
    show at1 (rdRule (ruleX 4 d)) = .ok d
    unfold rdRule
    rw [whole_rt (by rw [s.2]; have := rw_len h.1; omega) s.1 h]
    rfl
  | word ls =>
    have s := (pt_words fun l hl => Lts_word l (h.1 l hl)).sf
    show at1 (rdWord (wordX ls)) = .ok (tupS ls)
    unfold rdWord
    have e := wordM_rt (T := toks (wordX ls)) (f := (toks (wordX ls)).length) (acc := []) s.1 (fun x hx => ⟨(Lts_letter x (h.1 x hx)).1, (Lts_letter x (h.1 x hx)).2.2.1⟩) (by rw [show (toks (wordX ls)).length = ls.length + 1 from s.2]; omega) (by show 0 + _ ≤ _; have := h.2; omega)
    rw [e]
    rfl
  | route ds =>
    have p : Pt (routeX ds) (inter ([","] : List Str) (ds.map stepW)) := Pt.join Pu.comma ns_comma (by decide +kernel) fun d hd => step_pt (h.1 d hd)
    have s := p.sf
    show at1 (rdRoute (routeX ds)) = .ok (.tuple ds)
    unfold rdRoute
    have e := routeM_rt (f := (toks (routeX ds)).length) s.1 h.1 (by rw [s.2]; have := inter_len ds h.1; omega) h.2
    rw [e]
    rfl
  | pos ns =>
    have s := (pt_nums ns).sf
    show at1 (rdPos (posX ns)) = .ok (tupI ns)
    unfold rdPos
    have e := posM_rt (T := toks (posX ns)) (f := (toks (posX ns)).length) (acc := []) s.1 h.1 (by rw [s.2, List.length_map]; omega)
    rw [e]
    rfl
  | net ps ds =>
    obtain ⟨o1, o2, o3, o4, o5, o6⟩ := h
    obtain ⟨s1, s2⟩ := places_sf ps
    have el : linesM (netX ps ds) = (toks (placesX ps), 1) :: linesOf 1 (ds.map roadX) := by
      unfold linesM netX
      rw [lines_join (by simp) (fun x hx => by
        rcases List.mem_cons.mp hx with rfl | hx
        · exact places_free (.inr rfl) ps
        · obtain ⟨d, hd, rfl⟩ := List.mem_map.mp hx
          exact road_free (.inr rfl) (o4 d hd)), fullL_all fun x hx => ?_]
      · rfl
      · rcases List.mem_cons.mp hx with rfl | hx
        · rw [s1.hd]
          decide +kernel
        · obtain ⟨d, hd, rfl⟩ := List.mem_map.mp hx
          rw [(road_rt (o4 d hd) o1).2]
          decide +kernel
    show netM (netX ps ds) = .ok (.tuple [tupI ps, .tuple ds])
    unfold netM
    rw [el]
    show (if tk (toks (placesX ps)) 0 = "places" then (match placesM (toks (placesX ps)) (toks (placesX ps)).length [] 1 with
      | .error c => .error (1, c)
      | .ok ps' => match roadsM ps' (linesOf 1 (ds.map roadX)) [] with
        | .error e => .error e
        | .ok ds => .ok (.tuple [tupI ps', .tuple (sortD ds)]) : Except (Nat × Nat) PyData) else _) = _
    rw [if_pos s1.hd, placesM_rt (acc := []) (Sf.tl s1) o1 (by rw [List.nil_append]; exact o2) (by rw [s2]; omega) (by show 0 + _ ≤ _; omega)]
    show (match roadsM ps (linesOf 1 (ds.map roadX)) [] with
        | .error e => .error e
        | .ok ds => .ok (.tuple [tupI ps, .tuple (sortD ds)]) : Except (Nat × Nat) PyData) = _
    rw [roadsM_rt o1 (acc := []) o4 (by show 0 + _ ≤ _; omega)]
    show Except.ok (PyData.tuple [tupI ps, .tuple (sortD ds)]) = _
    rw [o6]
  | book nds =>
    obtain ⟨h1, h2, h3⟩ := h
    have eb : bookM (linesM (bookX nds)) [] = .ok nds := by
      cases nds with
      | nil =>
        have : linesM (bookX []) = [] := by decide +kernel
        rw [this]
        rfl
      | cons q r =>
        have el : linesM (bookX (q :: r)) = linesOf 0 ((q :: r).map fun q => q.1 ++ " = " ++ ruleX 4 q.2) := by
          unfold linesM bookX
          rw [lines_join (by simp) (fun x hx => by
            obtain ⟨d, hd, rfl⟩ := List.mem_map.mp hx
            exact entry_free (.inr rfl) (h1 d hd).1 (h1 d hd).2), fullL_all fun x hx => ?_]
          obtain ⟨d, hd, rfl⟩ := List.mem_map.mp hx
          rw [(entry_sf (h1 d hd).1 (h1 d hd).2).1.hd]
          exact (nms_word _ (h1 d hd).1).2.2
        rw [el, bookM_rt (acc := []) h1 (by rw [List.nil_append]; exact h2) (by show 0 + _ ≤ _; omega)]
        rfl
    show rdBook (bookX nds) = .ok (dicD nds)
    unfold rdBook
    rw [eb]
end T65
end
section
/-! W38: the law. -/
namespace T65
open PySem PySem.Spec PyProof.Rows L2
theorem shw_read {way x : Str} (h : x.length < 2 ^ 14) : Shw (outD (readM way x)) := by
  obtain ⟨h1, h2⟩ := readM_sw (way := way) h
  exact ⟨h1, h2.sh, Nat.le_trans h2.dp (by decide), h2.shown⟩
theorem shw_th {t : Th} (h : t.ok) : Shw t.data := by
  have z := shw_read (way := t.way) (x := t.text) (by have := th_len h; omega)
  rw [way_rt h] at z
  exact z
def spLaw (K : PySem.W.Frag) : Sp := fun vs H Q _ => ∃ (a : Addr) (ns : List Int), vs = [.ref a] ∧ SqL K H a (ns.map V.int) ∧ ∀ H', Q (.bl true) H'
def wys : List Str := ["rule", "word", "route", "positions", "net", "book"]
section
variable {P : Program} {w : World} {K : PySem.W.Frag} {mg : Str → Option Value} {base : Heap} {C S f : Addr} {fd : FuncData}
theorem ok_law (g : G65 K mg C S) (F : Fn K "law" s_law f fd)
    (c_law_pot_of : Cal P w K mg base CX0 1 "_law_pot_of" p_law_pot_of (spPotOf K)) (c_law_some_things : Cal P w K mg base CX0 9 "_law_some_things" p_law_some_things spThings) (c_law_written : Cal P w K mg base CX0 7 "_law_written" p_law_written spWritten)
    (c_law_same : CalG P w K mg base CX0 1 "_law_same" p_law_same spSame) (c_law_parsed : Cal P w K mg base CX0 24 "_law_parsed" p_law_parsed spParsed) (c_law_changed_text : Cal P w K mg base CX0 4 "_law_changed_text" p_law_changed_text spBent)
    (c_law_pick : Cal P w K mg base CX0 3 "_law_pick" p_law_pick (spPick K)) (c_law_read : Cal P w K mg base CX0 13 "_law_read" p_law_read spLRead) :
    FnOkG P w K mg base CX0 25 f fd p_law (spLaw K) := by
  refine okG F sc_law (fun vs H Q E h => by obtain ⟨a, ns, rfl, _⟩ := h; rfl) (fun cdv A outer s H vs Q E hgd hr h => ⟨_,
      (pss_cons (ps_set (i := 1) sc_law.nd rfl (by first | exact Or.inl rfl | exact Or.inr rfl) (pe_cal c_law_pot_of hr pass0 (pa_cons (pv 0) pa_nil)))
      (pss_cons (ps_for (passes_of rfl) rfl (pi_range1 rfl g.range (pa_cons pe_int pa_nil)) (pg_name (i := 2) sc_law.nd rfl (by first | exact Or.inl rfl | exact Or.inr rfl))
        (pss_one (ps_for (passes_of rfl) rfl (pi_listK (K := K) rfl (pe_cal c_law_some_things hr pass0 (pa_cons (pv 1) pa_nil))) (pg_tup rfl (pgs_cons (pg_name (i := 3) sc_law.nd rfl (by first | exact Or.inl rfl | exact Or.inr rfl)) (pgs_cons (pg_name (i := 4) sc_law.nd rfl (by first | exact Or.inl rfl | exact Or.inr rfl)) (pgs_cons (pg_name (i := 5) sc_law.nd rfl (by first | exact Or.inl rfl | exact Or.inr rfl)) pgs_nil))))
          (pss_cons (ps_set (i := 6) sc_law.nd rfl (by first | exact Or.inl rfl | exact Or.inr rfl) (pe_callB (call_reprD hgd (hu64 hr)) rfl g.repr rfl (pa_cons (pv 4) pa_nil)))
          (pss_cons (ps_if (PW.pt (pw_or (pt_cmpR op_ne (pe_cal c_law_written hr pass0 (pa_cons (pv 3) (pa_cons (pv 4) pa_nil))) (pv 5) (nomark _)) (pw_or1 (pt_not (pt_val (pe_calG c_law_same hgd hr pass0 (pa_cons (pe_cal c_law_parsed hr pass0 (pa_cons (pv 3) (pa_cons (pv 5) pa_nil))) (pa_cons (pv 4) pa_nil))))))))
            (pss_one (ps_ret pe_bl))
            pss_nil)
          (pss_cons (ps_if (pt_cmpR op_ne (pe_callB (call_reprD hgd (hu64 hr)) rfl g.repr rfl (pa_cons (pv 4) pa_nil)) (pv 6) (nomark _))
            (pss_one (ps_ret pe_bl))
            pss_nil)
          (pss_one (ps_for (passes_of rfl) rfl (pi_range1 rfl g.range (pa_cons pe_int pa_nil)) (pg_name (i := 7) sc_law.nd rfl (by first | exact Or.inl rfl | exact Or.inr rfl))
            (pss_cons (ps_set (i := 8) sc_law.nd rfl (by first | exact Or.inl rfl | exact Or.inr rfl) (pe_cal c_law_changed_text hr pass0 (pa_cons (pv 1) (pa_cons (pv 5) pa_nil))))
            (pss_one (ps_for (passes_of rfl) rfl (pi_tupK (K := K) rfl (pe_tup (pa_cons (pv 3) (pa_cons (pe_cal c_law_pick hr pass0 (pa_cons (pv 1) (pa_cons (pe_lst (pa_cons pe_str (pa_cons pe_str (pa_cons pe_str (pa_cons pe_str (pa_cons pe_str (pa_cons pe_str pa_nil))))))) pa_nil))) pa_nil)))) (pg_name (i := 9) sc_law.nd rfl (by first | exact Or.inl rfl | exact Or.inr rfl))
              (pss_one (ps_if (pt_not (pt_val (pe_calG c_law_same hgd hr pass0 (pa_cons (pe_cal c_law_parsed hr pass0 (pa_cons (pv 9) (pa_cons (pv 8) pa_nil))) (pa_cons (pe_cal c_law_read hr pass0 (pa_cons (pv 9) (pa_cons (pv 8) pa_nil))) pa_nil)))))
                (pss_one (ps_ret pe_bl))
                pss_nil)))))))))))))
      (pss_one (ps_ret pe_bl)))), ?_⟩)
  obtain ⟨a, ns, rfl, hA, q⟩ := h
  refine ⟨_, rfl, a, ns, rfl, hA, fun H1 p c k1 hp P1 => ?_⟩
  refine ⟨_, rfl, by omega, by omega, ?_⟩
  refine for_by 8 (fun i σ H2 => ∃ (e2 e3 e4 e5 e6 e7 e8 e9 : Option V), σ = [some (.ref a), some (.ref p), e2, e3, e4, e5, e6, e7, e8, e9] ∧ PotOk H2 p c)
    ⟨none, none, none, none, none, none, none, none, rfl, P1⟩ (fun i σ H2 hi _ => hi) (fun σ H2 _ => Nat.le_refl _) (fun t v σ H2 H3 hi hP hy => ?_) (fun σ H2 hP => ?_)
  rotate_left
  · obtain ⟨_, _, _, _, _, _, _, _, rfl, _⟩ := hP
    exact q H2
  obtain ⟨e2, e3, e4, e5, e6, e7, e8, e9, rfl, P2⟩ := hP
  obtain ⟨rfl, rfl⟩ := hy
  refine ⟨_, rfl, p, c, rfl, P2, fun H4 l as k4 P4 lp hl hT => ?_⟩
  refine ⟨l, rfl, ⟨_, SqL.of hl⟩, ?_⟩
  refine for_by as.length (fun i σ H5 => ∃ (e2 e3 e4 e5 e6 e7 e8 e9 : Option V), σ = [some (.ref a), some (.ref p), e2, e3, e4, e5, e6, e7, e8, e9] ∧ PotOk H5 p c ∧ Kp [p] H4 H5)
    ⟨_, _, _, _, _, _, _, _, rfl, P4, Kp.refl _ _⟩ (fun i σ H5 hi hP => ?_) (fun σ H5 hP => ?_) (fun i v σ H5 H6 hi hP hy => ?_) (fun σ H5 hP => ?_)
  · obtain ⟨_, _, _, _, _, _, _, _, _, _, k5⟩ := hP
    exact ⟨_, .ref as[i], SqL.of (k5.at_ hl (by simpa using lp)), by rw [List.getElem?_map, List.getElem?_eq_getElem hi]; rfl⟩
  · obtain ⟨_, _, _, _, _, _, _, _, _, _, k5⟩ := hP
    exact ⟨_, SqL.of (k5.at_ hl (by simpa using lp)), by rw [List.length_map]; exact Nat.le_refl _⟩
  rotate_left
  · obtain ⟨e2, e3, e4, e5, e6, e7, e8, e9, rfl, P5, k5⟩ := hP
    exact ⟨e2, e3, e4, e5, e6, e7, e8, e9, rfl, P5⟩
  obtain ⟨e2', e3', e4', e5', e6', e7', e8', e9', rfl, P5, k5⟩ := hP
  obtain ⟨rfl, hx⟩ := hy
  have hl5 := k5.at_ hl (by simpa using lp)
  have hv := hx _ (SqL.of hl5)
  rw [List.getElem?_map, List.getElem?_eq_getElem hi] at hv
  cases hv
  obtain ⟨th, tok, tA⟩ := hT as[i] (List.getElem_mem hi)
  obtain ⟨tv, ht5, tV⟩ := tA.kR k5
  have sw := shw_th tok
  refine ⟨_, _, rfl, SqT.of ht5, rfl, ?_⟩
  refine ⟨_, _, rfl, _, _, rfl, _, _, rfl, rfl, ?_⟩
  refine ⟨_, rfl, tv, th.data, rfl, tV.dd, tV.dd.ref sw, sw.sh, sw.dp, sw.ln, ?_⟩
  refine ⟨_, rfl, _, rfl, tv, th, rfl, tV, tok, fun H7 k7 => ?_⟩
  refine ⟨_, rfl, rfl, _, rfl, ite2 (fun z => absurd z (by simp)) (fun _ => ?_)⟩
  have tl := th_len tok
  refine ⟨_, rfl, _, rfl, th.way, th.text, rfl, by omega, fun H8 v8 k8 t8 => ?_⟩
  rw [way_rt tok] at t8
  have tV8 := (tV.kp k7).kp k8
  refine ⟨_, rfl, v8, tv, th.data, rfl, t8, tV8.dd, sw, ?_⟩
  refine ⟨_, rfl, ite2 (fun z => absurd z (by simp)) (fun _ => ?_)⟩
  refine ⟨_, rfl, tv, th.data, rfl, tV8.dd, tV8.dd.ref sw, sw.sh, sw.dp, sw.ln, ?_⟩
  refine ⟨_, rfl, rfl, _, rfl, ite2 (fun z => absurd z (by simp)) (fun _ => ?_)⟩
  have k48 := (k5.trans k7.any).trans k8.any
  have P8 := (P5.kp k7).kp k8
  refine ⟨_, rfl, by omega, by omega, ?_⟩
  refine for_by 4 (fun i σ H => ∃ (e7 e8 e9 : Option V), σ = [some (.ref a), some (.ref p), e2', some (.str th.way), some tv, some (.str th.text), some (.str th.data.shown), e7, e8, e9] ∧ PotOk H p c ∧ Kp [p] H4 H)
    ⟨_, _, _, rfl, P8, k48⟩ (fun i σ H2 hi _ => hi) (fun σ H2 _ => Nat.le_refl _) (fun t2 v2 σ H9 H10 hi2 hP hy2 => ?_) (fun σ H9 hP => ?_)
  rotate_left
  · obtain ⟨e7, e8, e9, rfl, P9, k9⟩ := hP
    exact ⟨_, _, _, _, _, _, _, _, rfl, P9, k9⟩
  obtain ⟨e7, e8, e9, rfl, P9, k9⟩ := hP
  obtain ⟨rfl, rfl⟩ := hy2
  refine ⟨_, rfl, _, rfl, p, c, th.text, rfl, P9, by omega, fun H11 bk y k11 P11 hbk by11 => ?_⟩
  have yl := by11.len
  have ns := bent_noSyn tok by11 hbk
  refine ⟨_, rfl, _, rfl, (by show 6 ≤ sizeLine; decide), fun q8 fq8 => ⟨p, c, q8, wys.map V.str, rfl, P11.new fq8 _, P11.ne fq8, .inl upd_same, by simp [wys], by decide, fun H12 v12 k12 P12 hv12 => ?_⟩⟩
  obtain ⟨kd, hkd, rfl⟩ := List.mem_map.mp hv12
  refine ⟨(by show 2 ≤ sizeLine; decide), fun tp ftp => ⟨tp, rfl, ⟨_, SqT.of upd_same⟩, ?_⟩⟩
  have k413 := ((k9.trans k11).trans (((Kp.refl [p] H11).new fq8 (.lst (wys.map V.str))).trans k12)).new ftp (.tup [.str th.way, .str kd])
  have P13 := P12.new ftp (.tup [.str th.way, .str kd])
  refine for_by 2 (fun i σ H => ∃ (e7 e9 : Option V), σ = [some (.ref a), some (.ref p), e2', some (.str th.way), some tv, some (.str th.text), some (.str th.data.shown), e7, some (.str y), e9] ∧ PotOk H p c ∧ Kp [p] H4 H ∧ H tp = some (.tup [.str th.way, .str kd]))
    ⟨_, _, rfl, P13, k413, upd_same⟩ (fun i σ H14 hi hP => ?_) (fun σ H14 hP => ?_) (fun t3 v3 σ H14 H15 hi3 hP hy3 => ?_) (fun σ H14 hP => ?_)
  · obtain ⟨_, _, _, _, _, h4⟩ := hP
    exact ⟨[.str th.way, .str kd], .str ([th.way, kd] : List Str)[i], SqT.of h4, by match i, hi with
      | 0, _ => rfl
      | 1, _ => rfl⟩
  · obtain ⟨_, _, _, _, _, h4⟩ := hP
    exact ⟨_, SqT.of h4, Nat.le_refl _⟩
  rotate_left
  · obtain ⟨e7', e9, rfl, P14, k14, _⟩ := hP
    exact ⟨_, _, _, rfl, P14, k14⟩
  obtain ⟨e7', e9', rfl, P14, k14, htp⟩ := hP
  obtain ⟨rfl, hx3⟩ := hy3
  have hv3 := hx3 _ (SqT.of htp)
  obtain ⟨wy, rfl⟩ : ∃ wy : Str, v3 = .str wy := by
    match t3, hi3, hv3 with
    | 0, _, e => exact ⟨th.way, by simpa using e.symm⟩
    | 1, _, e => exact ⟨kd, by simpa using e.symm⟩
  refine ⟨_, rfl, _, rfl, wy, y, rfl, by omega, fun H16 v16 k16 t16 => ?_⟩
  refine ⟨_, rfl, _, rfl, wy, y, rfl, by omega, fun _ => ns, fun H17 v17 k17 t17 => ?_⟩
  refine ⟨v16, v17, outD (readM wy y), rfl, t16.td k17.td, t17, shw_read (by omega), ?_⟩
  refine ⟨_, rfl, ite2 (fun z => absurd z (by simp)) (fun _ => ?_)⟩
  exact ⟨_, _, rfl, (P14.kp k16).kp k17, (k14.trans k16.any).trans k17.any, k17.at0 (k16.at0 htp)⟩
end
end T65
end
section
/-! Hd: the head: facts by names (printed by gen_head3.py). -/
namespace T65
open PySem PySem.Spec PyProof.Rows L2
def d_is_name : He.DefD := ⟨("is_name", none), "is_name", "is_name", defArgs s_is_name, defBody s_is_name, defScope s_is_name, [], []⟩
def d_figures_in : He.DefD := ⟨("figures_in", none), "figures_in", "figures_in", defArgs s_figures_in, defBody s_figures_in, defScope s_figures_in, [], []⟩
def d_is_letter : He.DefD := ⟨("is_letter", none), "is_letter", "is_letter", defArgs s_is_letter, defBody s_is_letter, defScope s_is_letter, [], []⟩
def d_tokens_of : He.DefD := ⟨("tokens_of", none), "tokens_of", "tokens_of", defArgs s_tokens_of, defBody s_tokens_of, defScope s_tokens_of, [], []⟩
def d_Line_init : He.DefD := ⟨("Line", some "__init__"), "__init__", "Line.__init__", defArgs s_Line_init, defBody s_Line_init, defScope s_Line_init, [], []⟩
def d_Line_peek : He.DefD := ⟨("Line", some "peek"), "peek", "Line.peek", defArgs s_Line_peek, defBody s_Line_peek, defScope s_Line_peek, [], []⟩
def d_Line_take : He.DefD := ⟨("Line", some "take"), "take", "Line.take", defArgs s_Line_take, defBody s_Line_take, defScope s_Line_take, [], []⟩
def d_Line_end : He.DefD := ⟨("Line", some "end"), "end", "Line.end", defArgs s_Line_end, defBody s_Line_end, defScope s_Line_end, [], []⟩
def d_Line_integer : He.DefD := ⟨("Line", some "integer"), "integer", "Line.integer", defArgs s_Line_integer, defBody s_Line_integer, defScope s_Line_integer, [], []⟩
def d_Line_read_rule : He.DefD := ⟨("Line", some "read_rule"), "read_rule", "Line.read_rule", defArgs s_Line_read_rule, defBody s_Line_read_rule, defScope s_Line_read_rule, [], []⟩
def d_Line_some_letters : He.DefD := ⟨("Line", some "some_letters"), "some_letters", "Line.some_letters", defArgs s_Line_some_letters, defBody s_Line_some_letters, defScope s_Line_some_letters, [], []⟩
def d_Line_some_rules : He.DefD := ⟨("Line", some "some_rules"), "some_rules", "Line.some_rules", defArgs s_Line_some_rules, defBody s_Line_some_rules, defScope s_Line_some_rules, [], []⟩
def d_format_rule : He.DefD := ⟨("format_rule", none), "format_rule", "format_rule", defArgs s_format_rule, defBody s_format_rule, defScope s_format_rule, [], []⟩
def d_parse_rule : He.DefD := ⟨("parse_rule", none), "parse_rule", "parse_rule", defArgs s_parse_rule, defBody s_parse_rule, defScope s_parse_rule, [], []⟩
def d_format_word : He.DefD := ⟨("format_word", none), "format_word", "format_word", defArgs s_format_word, defBody s_format_word, defScope s_format_word, [], []⟩
def d_parse_word : He.DefD := ⟨("parse_word", none), "parse_word", "parse_word", defArgs s_parse_word, defBody s_parse_word, defScope s_parse_word, [], []⟩
def d_format_route : He.DefD := ⟨("format_route", none), "format_route", "format_route", defArgs s_format_route, defBody s_format_route, defScope s_format_route, [], []⟩
def d_parse_route : He.DefD := ⟨("parse_route", none), "parse_route", "parse_route", defArgs s_parse_route, defBody s_parse_route, defScope s_parse_route, [], []⟩
def d_format_positions : He.DefD := ⟨("format_positions", none), "format_positions", "format_positions", defArgs s_format_positions, defBody s_format_positions, defScope s_format_positions, [], []⟩
def d_parse_positions : He.DefD := ⟨("parse_positions", none), "parse_positions", "parse_positions", defArgs s_parse_positions, defBody s_parse_positions, defScope s_parse_positions, [], []⟩
def d_lines_of : He.DefD := ⟨("lines_of", none), "lines_of", "lines_of", defArgs s_lines_of, defBody s_lines_of, defScope s_lines_of, [], []⟩
def d_format_book : He.DefD := ⟨("format_book", none), "format_book", "format_book", defArgs s_format_book, defBody s_format_book, defScope s_format_book, [], []⟩
def d_parse_book : He.DefD := ⟨("parse_book", none), "parse_book", "parse_book", defArgs s_parse_book, defBody s_parse_book, defScope s_parse_book, [], []⟩
def d_format_net : He.DefD := ⟨("format_net", none), "format_net", "format_net", defArgs s_format_net, defBody s_format_net, defScope s_format_net, [], []⟩
def d_read_places : He.DefD := ⟨("read_places", none), "read_places", "read_places", defArgs s_read_places, defBody s_read_places, defScope s_read_places, [], []⟩
def d_read_place : He.DefD := ⟨("read_place", none), "read_place", "read_place", defArgs s_read_place, defBody s_read_place, defScope s_read_place, [], []⟩
def d_parse_net : He.DefD := ⟨("parse_net", none), "parse_net", "parse_net", defArgs s_parse_net, defBody s_parse_net, defScope s_parse_net, [], []⟩
def d_law_kneaded : He.DefD := ⟨("_law_kneaded", none), "_law_kneaded", "_law_kneaded", defArgs s_law_kneaded, defBody s_law_kneaded, defScope s_law_kneaded, [], []⟩
def d_law_pot_of : He.DefD := ⟨("_law_pot_of", none), "_law_pot_of", "_law_pot_of", defArgs s_law_pot_of, defBody s_law_pot_of, defScope s_law_pot_of, [], []⟩
def d_law_below : He.DefD := ⟨("_law_below", none), "_law_below", "_law_below", defArgs s_law_below, defBody s_law_below, defScope s_law_below, [], []⟩
def d_law_pick : He.DefD := ⟨("_law_pick", none), "_law_pick", "_law_pick", defArgs s_law_pick, defBody s_law_pick, defScope s_law_pick, [], []⟩
def d_law_same : He.DefD := ⟨("_law_same", none), "_law_same", "_law_same", defArgs s_law_same, defBody s_law_same, defScope s_law_same, [], []⟩
def d_law_some_letters : He.DefD := ⟨("_law_some_letters", none), "_law_some_letters", "_law_some_letters", defArgs s_law_some_letters, defBody s_law_some_letters, defScope s_law_some_letters, [], []⟩
def d_law_drawn_rule : He.DefD := ⟨("_law_drawn_rule", none), "_law_drawn_rule", "_law_drawn_rule", defArgs s_law_drawn_rule, defBody s_law_drawn_rule, defScope s_law_drawn_rule, [], []⟩
def d_law_parts_of : He.DefD := ⟨("_law_parts_of", none), "_law_parts_of", "_law_parts_of", defArgs s_law_parts_of, defBody s_law_parts_of, defScope s_law_parts_of, [], []⟩
def d_law_sizes_of : He.DefD := ⟨("_law_sizes_of", none), "_law_sizes_of", "_law_sizes_of", defArgs s_law_sizes_of, defBody s_law_sizes_of, defScope s_law_sizes_of, [], []⟩
def d_law_fit_rule : He.DefD := ⟨("_law_fit_rule", none), "_law_fit_rule", "_law_fit_rule", defArgs s_law_fit_rule, defBody s_law_fit_rule, defScope s_law_fit_rule, [], []⟩
def d_law_is_letter : He.DefD := ⟨("_law_is_letter", none), "_law_is_letter", "_law_is_letter", defArgs s_law_is_letter, defBody s_law_is_letter, defScope s_law_is_letter, [], []⟩
def d_law_tokens : He.DefD := ⟨("_law_tokens", none), "_law_tokens", "_law_tokens", defArgs s_law_tokens, defBody s_law_tokens, defScope s_law_tokens, [], []⟩
def d_law_integer_in : He.DefD := ⟨("_law_integer_in", none), "_law_integer_in", "_law_integer_in", defArgs s_law_integer_in, defBody s_law_integer_in, defScope s_law_integer_in, [], []⟩
def d_law_is_name : He.DefD := ⟨("_law_is_name", none), "_law_is_name", "_law_is_name", defArgs s_law_is_name, defBody s_law_is_name, defScope s_law_is_name, [], []⟩
def d_law_is_problem : He.DefD := ⟨("_law_is_problem", none), "_law_is_problem", "_law_is_problem", defArgs s_law_is_problem, defBody s_law_is_problem, defScope s_law_is_problem, [], []⟩
def d_law_fail : He.DefD := ⟨("_law_fail", none), "_law_fail", "_law_fail", defArgs s_law_fail, defBody s_law_fail, defScope s_law_fail, [], []⟩
def d_law_next : He.DefD := ⟨("_law_next", none), "_law_next", "_law_next", defArgs s_law_next, defBody s_law_next, defScope s_law_next, [], []⟩
def d_law_made_reader : He.DefD := ⟨("_law_made_reader", none), "_law_made_reader", "_law_made_reader", defArgs s_law_made_reader, defBody s_law_made_reader, defScope s_law_made_reader, [], []⟩
def d_law_read_rule : He.DefD := ⟨("_law_read_rule", none), "_law_read_rule", "_law_read_rule", defArgs s_law_read_rule, defBody s_law_read_rule, defScope s_law_read_rule, [], []⟩
def d_law_read_letter : He.DefD := ⟨("_law_read_letter", none), "_law_read_letter", "_law_read_letter", defArgs s_law_read_letter, defBody s_law_read_letter, defScope s_law_read_letter, [], []⟩
def d_law_whole : He.DefD := ⟨("_law_whole", none), "_law_whole", "_law_whole", defArgs s_law_whole, defBody s_law_whole, defScope s_law_whole, [], []⟩
def d_law_read_some : He.DefD := ⟨("_law_read_some", none), "_law_read_some", "_law_read_some", defArgs s_law_read_some, defBody s_law_read_some, defScope s_law_read_some, [], []⟩
def d_law_read_route : He.DefD := ⟨("_law_read_route", none), "_law_read_route", "_law_read_route", defArgs s_law_read_route, defBody s_law_read_route, defScope s_law_read_route, [], []⟩
def d_law_line_readers : He.DefD := ⟨("_law_line_readers", none), "_law_line_readers", "_law_line_readers", defArgs s_law_line_readers, defBody s_law_line_readers, defScope s_law_line_readers, [], []⟩
def d_law_read_book : He.DefD := ⟨("_law_read_book", none), "_law_read_book", "_law_read_book", defArgs s_law_read_book, defBody s_law_read_book, defScope s_law_read_book, [], []⟩
def d_law_read_net : He.DefD := ⟨("_law_read_net", none), "_law_read_net", "_law_read_net", defArgs s_law_read_net, defBody s_law_read_net, defScope s_law_read_net, [], []⟩
def d_law_read_road : He.DefD := ⟨("_law_read_road", none), "_law_read_road", "_law_read_road", defArgs s_law_read_road, defBody s_law_read_road, defScope s_law_read_road, [], []⟩
def d_law_read : He.DefD := ⟨("_law_read", none), "_law_read", "_law_read", defArgs s_law_read, defBody s_law_read, defScope s_law_read, [], []⟩
def d_law_parsed : He.DefD := ⟨("_law_parsed", none), "_law_parsed", "_law_parsed", defArgs s_law_parsed, defBody s_law_parsed, defScope s_law_parsed, [], []⟩
def d_law_rule_text : He.DefD := ⟨("_law_rule_text", none), "_law_rule_text", "_law_rule_text", defArgs s_law_rule_text, defBody s_law_rule_text, defScope s_law_rule_text, [], []⟩
def d_law_some_things : He.DefD := ⟨("_law_some_things", none), "_law_some_things", "_law_some_things", defArgs s_law_some_things, defBody s_law_some_things, defScope s_law_some_things, [], []⟩
def d_law_written : He.DefD := ⟨("_law_written", none), "_law_written", "_law_written", defArgs s_law_written, defBody s_law_written, defScope s_law_written, [], []⟩
def d_law_changed_text : He.DefD := ⟨("_law_changed_text", none), "_law_changed_text", "_law_changed_text", defArgs s_law_changed_text, defBody s_law_changed_text, defScope s_law_changed_text, [], []⟩
def d_law : He.DefD := ⟨("law", none), "law", "law", defArgs s_law, defBody s_law, defScope s_law, [], []⟩
def fnA : List He.DefD := [d_is_name, d_figures_in, d_is_letter, d_tokens_of, d_Line_init, d_Line_peek, d_Line_take, d_Line_end, d_Line_integer, d_Line_read_rule, d_Line_some_letters, d_Line_some_rules, d_format_rule, d_parse_rule, d_format_word, d_parse_word, d_format_route, d_parse_route, d_format_positions, d_parse_positions, d_lines_of, d_format_book, d_parse_book, d_format_net, d_read_places, d_read_place, d_parse_net, d_law_kneaded, d_law_pot_of, d_law_below, d_law_pick, d_law_same, d_law_some_letters, d_law_drawn_rule, d_law_parts_of]
def fnB : List He.DefD := [d_law_sizes_of, d_law_fit_rule, d_law_is_letter, d_law_tokens, d_law_integer_in, d_law_is_name, d_law_is_problem, d_law_fail, d_law_next, d_law_made_reader, d_law_read_rule, d_law_read_letter, d_law_whole, d_law_read_some, d_law_read_route, d_law_line_readers, d_law_read_book, d_law_read_net, d_law_read_road, d_law_read, d_law_parsed, d_law_rule_text, d_law_some_things, d_law_written, d_law_changed_text, d_law]
def fn : List He.DefD := fnA ++ fnB
def fa0 : List He.Fa := [.glo "RoadError", .glo "SyntaxProblem", .glo "is_name", .glo "figures_in", .glo "is_letter", .glo "tokens_of", .glo "Line", .glo "format_rule", .glo "parse_rule", .glo "format_word", .glo "parse_word", .glo "format_route", .glo "parse_route", .glo "format_positions", .glo "parse_positions", .glo "lines_of", .glo "format_book", .glo "parse_book", .glo "format_net", .glo "read_places", .glo "read_place", .glo "parse_net", .glo "_law_kneaded", .glo "_law_pot_of", .glo "_law_below", .glo "_law_pick", .glo "_law_same", .glo "_law_some_letters", .glo "_law_drawn_rule", .glo "_law_parts_of"]
def fa1 : List He.Fa := [.glo "_law_sizes_of", .glo "_law_fit_rule", .glo "_law_is_letter", .glo "_law_tokens", .glo "_law_integer_in", .glo "_law_is_name", .glo "_law_is_problem", .glo "_law_fail", .glo "_law_next", .glo "_law_made_reader", .glo "_law_read_rule", .glo "_law_read_letter", .glo "_law_whole", .glo "_law_read_some", .glo "_law_read_route", .glo "_law_line_readers", .glo "_law_read_book", .glo "_law_read_net", .glo "_law_read_road", .glo "_law_read", .glo "_law_parsed", .glo "_law_rule_text", .glo "_law_some_things", .glo "_law_written", .glo "_law_changed_text", .glo "law", .free "len", .free "isinstance", .free "str", .free "all"]
def fa2 : List He.Fa := [.free "int", .free "super", .free "tuple", .free "enumerate", .free "sorted", .free "abs", .free "range", .free "repr", .free "list", .free "max", .free "dict", .free "set", .str "SMALL" "abcdefghijklmnopqrstuvwxyz", .str "FIGURES" "0123456789", .int "MOST_SIGNS" 8, .int "MOST_AGE" 9999, .int "MOST_LETTERS" 30, .int "MAX_PLACES" 64, .int "MAX_PLACE" 1000000, .int "MAX_ROADS" 200, .int "MAX_COST" 1000000, .int "MOST_RULES" 20, .int "MOST_LEVELS" 8, .int "MOST_IN_ALL" 12, .int "MOST_STEPS" 60, .int "MOST_NUMBER" 9999, .int "MOST_NAMES" 8, .str "SIGNS" "abcdefghijklmnopqrstuvwxyz0123456789@", .cls "Line", .noat "Line" "tokens"]
def fa3 : List He.Fa := [.noat "Line" "number", .noat "Line" "place", .noat "Line" "rules", .noat "Line" "letters", .meth "Line" "peek", .meth "Line" "take", .meth "Line" "end", .meth "Line" "integer", .meth "Line" "read_rule", .meth "Line" "some_letters", .meth "Line" "some_rules", .mkr "Line"]
def fa : List He.Fa := fa0 ++ fa1 ++ fa2 ++ fa3
def ls0 : List PySem.Str := ["RoadError", "SyntaxProblem", "is_name", "figures_in", "is_letter", "tokens_of", "Line", "format_rule", "parse_rule", "format_word", "parse_word", "format_route", "parse_route", "format_positions", "parse_positions", "lines_of", "format_book", "parse_book", "format_net", "read_places", "read_place", "parse_net", "_law_kneaded", "_law_pot_of", "_law_below", "_law_pick", "_law_same", "_law_some_letters", "_law_drawn_rule", "_law_parts_of"]
def ls1 : List PySem.Str := ["_law_sizes_of", "_law_fit_rule", "_law_is_letter", "_law_tokens", "_law_integer_in", "_law_is_name", "_law_is_problem", "_law_fail", "_law_next", "_law_made_reader", "_law_read_rule", "_law_read_letter", "_law_whole", "_law_read_some", "_law_read_route", "_law_line_readers", "_law_read_book", "_law_read_net", "_law_read_road", "_law_read", "_law_parsed", "_law_rule_text", "_law_some_things", "_law_written", "_law_changed_text", "SMALL", "FIGURES", "MOST_SIGNS", "MOST_AGE", "MOST_LETTERS"]
def ls2 : List PySem.Str := ["MAX_PLACES", "MAX_PLACE", "MAX_ROADS", "MAX_COST", "MOST_RULES", "MOST_LEVELS", "MOST_IN_ALL", "MOST_STEPS", "MOST_NUMBER", "MOST_NAMES", "SIGNS"]
def loose : List PySem.Str := ls0 ++ ls1 ++ ls2
/-! ### the errors' class -/
/-- what an own class over ValueError looks like -/
def clsB (K : PySem.W.Frag) (C : Addr) : Bool := match K.lookup C with
  | some ⟨.type "type", _, .cls cd, sl⟩ => (match cd.mro, sl.toList with
    | .ref C' :: bm, [_, _, _, _, some (.builtin n), _] => C' == C && (n == "ValueError.__new__" && (!cd.hasDel && (cd.hasDict && PySem.HandSPX.refsVE bm)))
    | _, _ => false)
  | _ => false
theorem clsB_ok {K : PySem.W.Frag} {C : Addr} (q : clsB K C = true) : ∃ nm q N bs bm sn sub ab col dd k0 k1 k2 k3 k5, K.lookup C = some (excClassObj nm q C N bs bm true sn sub ab col dd k0 k1 k2 k3 k5 "ValueError.__new__") ∧ PySem.HandSPX.refsVE bm = true := by
  unfold clsB at q
  split at q
  · rename_i dd cd sl ho
    split at q
    · rename_i C' bm k0 k1 k2 k3 n k5 hm hs
      simp only [Bool.and_eq_true, beq_iff_eq, Bool.not_eq_true'] at q
      obtain ⟨rfl, rfl, hdel, hd, hr⟩ := q
      obtain ⟨nm, bs, mro, ns, qn, hd', sn, sub, ab, col, del⟩ := cd
      dsimp only at hm hdel hd
      subst hm hdel hd
      have hsl : sl = #[k0, k1, k2, k3, some (.builtin "ValueError.__new__"), k5] := by
        obtain ⟨l⟩ := sl
        simp only at hs
        rw [hs]
      subst hsl
      exact ⟨nm, qn, ns, bs, bm, sn, sub, ab, col, dd, k0, k1, k2, k3, k5, ho, hr⟩
    · cases q
  · cases q
abbrev aS (K : PySem.W.Frag) : Addr := He.ga K "SyntaxProblem"
abbrev aR (K : PySem.W.Frag) : Addr := He.ga K "RoadError"
abbrev aI (K : PySem.W.Frag) : Addr := He.ma K (aS K) "__init__"
def oB (a b : Option (Option Value)) : Bool := decide (a = b)
def bB (a : Option Bool) : Bool := decide (a = some true)
theorem oB_ok {a b : Option (Option Value)} (h : oB a b = true) : a = b := of_decide_eq_true h
theorem bB_ok {a : Option Bool} (h : bB a = true) : a = some true := of_decide_eq_true h
def oexB (K : PySem.W.Frag) (C : Addr) : Bool := clsB K C && (oB (PySem.W.findIn K (.ref C) "__setattr__") (some (some (.builtin "object.__setattr__"))) && (bB (PySem.W.subIn K (.ref C) (.type "BaseException")) && (decide (PySem.W.typeIn K (.ref C) = some (.type "type")) && PySem.W.keepIn K (.ref C))))
theorem oexB_ok {K : PySem.W.Frag} {C : Addr} (h : oexB K C = true) : OexC K C := by
  obtain ⟨h1, h⟩ := He.ba h
  obtain ⟨h2, h⟩ := He.ba h
  obtain ⟨h3, h⟩ := He.ba h
  obtain ⟨h4, h5⟩ := He.ba h
  exact ⟨clsB_ok h1, oB_ok h2, bB_ok h3, of_decide_eq_true h4, h5⟩
def isB (K : PySem.W.Frag) (C : Addr) : Bool := (PySem.W.clsIn K C).isSome && (oB (PySem.W.findIn K (.ref C) "__getattribute__") (some (some (.builtin "BaseException.__getattribute__"))) && (oB (PySem.W.findIn K (.ref C) "__getattr__") (some none) && (bB (PySem.W.subIn K (.ref C) (.type "BaseException")) &&
  (oB (PySem.W.findIn K (.ref C) "__class__") (some (some (.builtin "object.__class__"))) && (oB (PySem.W.specialIn K (.builtin "object.__class__") "__get__") (some (some (.builtin "getset_descriptor.__get__"))) && (bB (PySem.W.takesIn K (.builtin "object.__class__")) && (bB (PySem.W.mroIn K C (.type "object")) && bB (PySem.W.kitOne K (.ref C) (.ref C)))))))))
theorem isB_ok {K : PySem.W.Frag} {C : Addr} (h : isB K C = true) : IsC K C := by
  obtain ⟨h1, h⟩ := He.ba h
  obtain ⟨h2, h⟩ := He.ba h
  obtain ⟨h3, h⟩ := He.ba h
  obtain ⟨h4, h⟩ := He.ba h
  obtain ⟨h5, h⟩ := He.ba h
  obtain ⟨h6, h⟩ := He.ba h
  obtain ⟨h7, h⟩ := He.ba h
  obtain ⟨h8, h9⟩ := He.ba h
  exact ⟨h1, oB_ok h2, oB_ok h3, bB_ok h4, oB_ok h5, oB_ok h6, bB_ok h7, bB_ok h8, bB_ok h9⟩
/-- its own init: the code, the file, the cell of the class -/
def cdB (K : PySem.W.Frag) : Value → Bool
  | .ref c => PySem.W.codeIn K (.ref c) "SyntaxProblem.__init__" && (match K.lookup c with
    | some ⟨_, _, .fields vs, _⟩ => (match (vs[2]? : Option Value) with
      | some (.str file _) => decide (file = ("/claim/cut.py" : Str))
      | _ => false)
    | _ => false)
  | _ => false
def clB (K : PySem.W.Frag) (C : Addr) : List (Str × Addr) → Bool
  | [(x, c)] => decide (x = ("__class__" : Str)) && (match K.lookup c with
    | some ⟨_, _, .cell (some (.ref D)), _⟩ => D == C
    | _ => false)
  | _ => false
def dfB : Value → Bool
  | .none => true
  | _ => false
def initB (K : PySem.W.Frag) (C f : Addr) : Bool := oB (PySem.W.findIn K (.ref C) "__init__") (some (some (.ref f))) && (decide (PySem.W.typeIn K (.ref f) = some (.type "function")) && (match K.lookup f with
  | some ⟨_, _, .func fd, _⟩ => dfB fd.defaults && (cdB K fd.code && clB K C fd.closure)
  | _ => false))
abbrev FnI : Type := Option (Str × Str × Arguments × FuncBody × Scope × Addr × Addr)
def fnI (K : PySem.W.Frag) (f : Addr) : FnI := match K.lookup f with
  | some ⟨_, _, .func fd, _⟩ => some (fd.name, fd.qualname, fd.params, fd.body, fd.scope, fd.globals, fd.builtins)
  | _ => none
def valI : FnI := some ("__init__", "SyntaxProblem.__init__", defArgs s_SyntaxProblem_init, .stmts (defBody s_SyntaxProblem_init), defScope s_SyntaxProblem_init, mainGlobals, builtinsNs)
theorem init_ok {P : Program} {w : World} {K : PySem.W.Frag} {mg : Str → Option Value} {base : Heap} {C f : Addr} (hP : P.main.file = ("/claim/cut.py" : Str)) (b : initB K C f = true) (e : fnI K f = valI) (T : SpC P K mg C) : SpK P w K mg base C := by
  obtain ⟨h1, b⟩ := He.ba b
  obtain ⟨h2, b⟩ := He.ba b
  unfold fnI at e
  cases q : K.lookup f with
  | none =>
    rw [q] at b
    cases b
  | some o =>
    obtain ⟨oc, od, dt, osl⟩ := o
    rw [q] at b e
    cases dt with
    | func fd =>
      obtain ⟨n1, n2, n3, n4, n5, n6, n7, n8, n9, n10, n11, n12, n13, n14, n15⟩ := fd
      have e2 : (some (n1, n2, n3, n4, n5, n6, n15) : FnI) = valI := e
      unfold valI at e2
      simp only [Option.some.injEq, Prod.mk.injEq] at e2
      obtain ⟨g1, g2, g3, g4, g5, g6, g7⟩ := e2
      subst g1 g2 g3 g4 g5 g6 g7
      obtain ⟨b1, b⟩ := He.ba b
      obtain ⟨b2, b3⟩ := He.ba b
      replace b1 : dfB n8 = true := b1
      replace b2 : cdB K n13 = true := b2
      replace b3 : clB K C n7 = true := b3
      have d0 : n8 = .none := by
        cases n8 with
        | none => rfl
        | _ => cases b1
      subst d0
      cases n13 with
      | ref cda =>
        obtain ⟨c1, c2⟩ := He.ba b2
        match n7, b3 with
        | [(x, cc)], b3 =>
          obtain ⟨x1, x2⟩ := He.ba b3
          have ex := of_decide_eq_true x1
          subst ex
          cases q2 : K.lookup cda with
          | none =>
            rw [q2] at c2
            cases c2
          | some o2 =>
            obtain ⟨oc2, od2, dt2, osl2⟩ := o2
            rw [q2] at c2
            cases dt2 with
            | fields vs =>
              cases q3 : vs[2]? with
              | none =>
                have c3 : (match (vs[2]? : Option Value) with
                  | some (.str file _) => decide (file = ("/claim/cut.py" : Str))
                  | _ => false) = true := c2
                rw [q3] at c3
                cases c3
              | some u =>
                have c3 : (match (vs[2]? : Option Value) with
                  | some (.str file _) => decide (file = ("/claim/cut.py" : Str))
                  | _ => false) = true := c2
                rw [q3] at c3
                cases u with
                | str file tf =>
                  have ef : file = ("/claim/cut.py" : Str) := of_decide_eq_true c3
                  cases q4 : K.lookup cc with
                  | none =>
                    rw [q4] at x2
                    cases x2
                  | some o4 =>
                    obtain ⟨oc4, od4, dt4, osl4⟩ := o4
                    rw [q4] at x2
                    cases dt4 with
                    | cell cv =>
                      cases cv with
                      | none => cases x2
                      | some u4 =>
                        cases u4 with
                        | ref D =>
                          have ed : D = C := by
                            have x3 : (D == C) = true := x2
                            exact beq_iff_eq.mp x3
                          subst ed
                          refine ⟨f, _, ok_spinit (k := 0) q c1 q2 q3 (by rw [hP, ef]; exact beq_self_eq_true _) q4 T, ?_, T.oex, oB_ok h1, of_decide_eq_true h2⟩
                          exact Binds.all fun us hl => match us, hl with | [_, _, _], _ => rfl
                        | _ => cases x2
                    | _ => cases x2
                | _ => cases c3
            | _ => cases c2
      | _ => cases b2
    | _ => cases b
/-! ### the Hook -/
def xtra (K : PySem.W.Frag) : Bool := xfB K (aS K) && (isB K (aS K) && (oB (PySem.W.findIn K (.ref (aS K)) "line") (some none) && (oB (PySem.W.findIn K (.ref (aS K)) "column") (some none) && (bB (PySem.W.exmOne K (.ref (aS K)) (.ref (aR K))) && (oexB K (aS K) &&
  (oB (PySem.W.ks_superIn K (aS K) (aS K) "__init__") (some (some (.builtin "ValueError.__init__"))) && (bB (PySem.W.subIn K (.ref (aS K)) (.type "ValueError")) && (bB (PySem.W.mroIn K (aS K) (.ref (aS K))) && (oB (PySem.W.nsIn K cStatics "thirdparty.any") (some none) && initB K (aS K) (aI K))))))))))
abbrev AlX : Type := He.AlD × Bool × FnI
def obsX (K : PySem.W.Frag) : AlX := (He.obsD fa fn K, xtra K, fnI K (aI K))
def valX : AlX := (He.valD fn, true, valI)
def obsXG (g : Addr → Option Obj) : AlX := obsX (He.frG g (He.asD g 5 ++ [cStatics]))
def hk : PySem.W.Hook where
  α := AlX
  obs := fun s => obsXG s.heap.get?
  val := fun _ => valX
  says := fun _ h => ∃ K : PySem.W.Frag, K.In h ∧ obsX K = valX
  of := fun _ _ e => ⟨_, He.frG_in, e⟩
  keeps := fun _ _ _ ⟨K, hK, c⟩ k => ⟨K, PySem.W.Frag.In.keeps hK k, c⟩
abbrev R : PySem.W.OpenRow := PySem.W.OpenLaw.row PySem.Challenge.rw_toldroads_k65_whole_texts_read
def ob (s : PySem.W.SharedT) : AlX := obsXG (HandSHeadRun.getT s)
theorem ob_eq (s : PySem.W.SharedT) : ob s = hk.obs s.abs := by
  have e : HandSHeadRun.getT s = s.abs.heap.get? := funext (HandSHeadRun.getT_eq s)
  unfold ob
  rw [e]
  rfl
end T65
end
section
/-! Hr: the run of the top. -/
namespace T65
open PySem PySem.Spec PyProof.Rows L2
theorem run (w : World) : HandSHeadRun.RunEq R (PySem.W.view R.prog [75]) hk ob 4000 loose w := by
  intro os
  kernel_rfl
end T65
end
section
/-! Hf: all promises together (printed by gen_facts.py); the end. -/
namespace T65
open PySem PySem.Spec PyProof.Rows L2
section
variable {P : Program} {w : World} {K : PySem.W.Frag} {mg : Str → Option Value} {base h : Heap}
theorem konI_of (X : K.In h) (G : h.Ns mainGlobals mg) {x : Str} {i : Int} (c : (He.Fa.int x i).ok K = true) : KonI mg x i := by
  obtain ⟨t, e⟩ := He.int_ok X G c
  exact ⟨_, e, t, rfl⟩
theorem konS_of (X : K.In h) (G : h.Ns mainGlobals mg) {x z : Str} (c : (He.Fa.str x z).ok K = true) : KonS mg x z := by
  obtain ⟨t, e⟩ := He.str_ok X G c
  exact ⟨_, e, t, rfl⟩
theorem g65_of (X : K.In h) (G : h.Ns mainGlobals mg) (c : He.SaysD fa fn K) : G65 K mg (He.ga K "Line") (aS K) :=
  ⟨(He.free_ok X G (c.fact 56 (f := .free "len") rfl)),
    (He.free_ok X G (c.fact 57 (f := .free "isinstance") rfl)),
    (He.free_ok X G (c.fact 58 (f := .free "str") rfl)),
    (He.free_ok X G (c.fact 59 (f := .free "all") rfl)),
    (He.free_ok X G (c.fact 60 (f := .free "int") rfl)),
    (He.free_ok X G (c.fact 62 (f := .free "tuple") rfl)),
    (He.free_ok X G (c.fact 63 (f := .free "enumerate") rfl)),
    (He.free_ok X G (c.fact 64 (f := .free "sorted") rfl)),
    (He.free_ok X G (c.fact 65 (f := .free "abs") rfl)),
    (He.free_ok X G (c.fact 66 (f := .free "range") rfl)),
    (He.free_ok X G (c.fact 67 (f := .free "repr") rfl)),
    (He.free_ok X G (c.fact 68 (f := .free "list") rfl)),
    (He.free_ok X G (c.fact 69 (f := .free "max") rfl)),
    (He.free_ok X G (c.fact 70 (f := .free "dict") rfl)),
    (He.free_ok X G (c.fact 71 (f := .free "set") rfl)),
    (konS_of X G (c.fact 72 (f := .str "SMALL" "abcdefghijklmnopqrstuvwxyz") rfl)),
    (konS_of X G (c.fact 73 (f := .str "FIGURES" "0123456789") rfl)),
    (konS_of X G (c.fact 87 (f := .str "SIGNS" "abcdefghijklmnopqrstuvwxyz0123456789@") rfl)),
    (konI_of X G (c.fact 74 (f := .int "MOST_SIGNS" 8) rfl)),
    (konI_of X G (c.fact 75 (f := .int "MOST_AGE" 9999) rfl)),
    (konI_of X G (c.fact 76 (f := .int "MOST_LETTERS" 30) rfl)),
    (konI_of X G (c.fact 77 (f := .int "MAX_PLACES" 64) rfl)),
    (konI_of X G (c.fact 78 (f := .int "MAX_PLACE" 1000000) rfl)),
    (konI_of X G (c.fact 79 (f := .int "MAX_ROADS" 200) rfl)),
    (konI_of X G (c.fact 80 (f := .int "MAX_COST" 1000000) rfl)),
    (konI_of X G (c.fact 81 (f := .int "MOST_RULES" 20) rfl)),
    (konI_of X G (c.fact 82 (f := .int "MOST_LEVELS" 8) rfl)),
    (konI_of X G (c.fact 83 (f := .int "MOST_IN_ALL" 12) rfl)),
    (konI_of X G (c.fact 84 (f := .int "MOST_STEPS" 60) rfl)),
    (konI_of X G (c.fact 85 (f := .int "MOST_NUMBER" 9999) rfl)),
    (konI_of X G (c.fact 86 (f := .int "MOST_NAMES" 8) rfl)),
    (He.glo_ok X G (c.fact 6 (f := .glo "Line") rfl)),
    (He.cls_ok (c.fact 88 (f := .cls "Line") rfl)),
    (He.noat_ok (c.fact 89 (f := .noat "Line" "tokens") rfl)),
    (He.noat_ok (c.fact 90 (f := .noat "Line" "number") rfl)),
    (He.noat_ok (c.fact 91 (f := .noat "Line" "place") rfl)),
    (He.noat_ok (c.fact 92 (f := .noat "Line" "rules") rfl)),
    (He.noat_ok (c.fact 93 (f := .noat "Line" "letters") rfl)),
    (He.glo_ok X G (c.fact 1 (f := .glo "SyntaxProblem") rfl))⟩
structure Xtra (K : PySem.W.Frag) : Prop where
  xf : XfC K (aS K)
  is : IsC K (aS K)
  line : PySem.W.findIn K (.ref (aS K)) "line" = some none
  column : PySem.W.findIn K (.ref (aS K)) "column" = some none
  ex : PySem.W.exmOne K (.ref (aS K)) (.ref (aR K)) = some true
  oex : OexC K (aS K)
  up : PySem.W.ks_superIn K (aS K) (aS K) "__init__" = some (some (.builtin "ValueError.__init__"))
  isV : PySem.W.subIn K (.ref (aS K)) (.type "ValueError") = some true
  isC : PySem.W.mroIn K (aS K) (.ref (aS K)) = some true
  opq : PySem.W.nsIn K cStatics "thirdparty.any" = some none
  ini : initB K (aS K) (aI K) = true
theorem xtra_ok (h : xtra K = true) : Xtra K := by
  obtain ⟨h1, h⟩ := He.ba h
  obtain ⟨h2, h⟩ := He.ba h
  obtain ⟨h3, h⟩ := He.ba h
  obtain ⟨h4, h⟩ := He.ba h
  obtain ⟨h5, h⟩ := He.ba h
  obtain ⟨h6, h⟩ := He.ba h
  obtain ⟨h7, h⟩ := He.ba h
  obtain ⟨h8, h⟩ := He.ba h
  obtain ⟨h9, h⟩ := He.ba h
  obtain ⟨h10, h11⟩ := He.ba h
  exact ⟨xfB_ok h1, isB_ok h2, oB_ok h3, oB_ok h4, bB_ok h5, oexB_ok h6, oB_ok h7, bB_ok h8, bB_ok h9, oB_ok h10, h11⟩
theorem all_of (X : K.In h) (G : h.Ns mainGlobals mg) (e : obsX K = valX) (hP : P.main.file = ("/claim/cut.py" : Str)) (hS : (P.main.scope.names.lookup ("super" : Str)).isSome = false) :
    ∃ fd : FuncData, (∀ (s : Shared) (v : Value), BindsTo s fd ⟨[v], []⟩ [("_law_script", v)]) ∧ ∀ base : Heap, FnOkG P w K mg base CX0 25 (He.ga K "law") fd p_law (spLaw K) := by
  have c : He.SaysD fa fn K := congrArg (fun z : AlX => z.1) e
  have x := xtra_ok (show xtra K = true from congrArg (fun z : AlX => z.2.1) e)
  have ei : fnI K (aI K) = valI := congrArg (fun z : AlX => z.2.2) e
  have g := g65_of X G c
  have gR := (He.glo_ok X G (c.fact 0 (f := .glo "RoadError") rfl))
  have gs : SpF K mg (aR K) (aS K) := ⟨x.xf, x.is, x.line, x.column, x.ex, gR⟩
  have sc : SpC P K mg (aS K) := ⟨x.oex, x.up, x.isV, x.isC, x.opq, (He.free_ok X G (c.fact 61 (f := .free "super") rfl)), x.line, x.column, hS⟩
  have sp : ∀ base : Heap, SpK P w K mg base (aS K) := fun base => init_ok hP x.ini ei sc
  obtain ⟨fd_is_name, F_is_name⟩ := c.def_ 0 (d := d_is_name) rfl
  have g_is_name := He.glo_ok X G (c.fact 2 (f := .glo "is_name") rfl)
  obtain ⟨fd_figures_in, F_figures_in⟩ := c.def_ 1 (d := d_figures_in) rfl
  have g_figures_in := He.glo_ok X G (c.fact 3 (f := .glo "figures_in") rfl)
  obtain ⟨fd_is_letter, F_is_letter⟩ := c.def_ 2 (d := d_is_letter) rfl
  have g_is_letter := He.glo_ok X G (c.fact 4 (f := .glo "is_letter") rfl)
  obtain ⟨fd_tokens_of, F_tokens_of⟩ := c.def_ 3 (d := d_tokens_of) rfl
  have g_tokens_of := He.glo_ok X G (c.fact 5 (f := .glo "tokens_of") rfl)
  obtain ⟨fd_Line_init, F_Line_init⟩ := c.def_ 4 (d := d_Line_init) rfl
  obtain ⟨fd_Line_peek, F_Line_peek⟩ := c.def_ 5 (d := d_Line_peek) rfl
  have g_Line_peek := He.meth_ok (c.fact 94 (f := .meth "Line" "peek") rfl)
  obtain ⟨fd_Line_take, F_Line_take⟩ := c.def_ 6 (d := d_Line_take) rfl
  have g_Line_take := He.meth_ok (c.fact 95 (f := .meth "Line" "take") rfl)
  obtain ⟨fd_Line_end, F_Line_end⟩ := c.def_ 7 (d := d_Line_end) rfl
  have g_Line_end := He.meth_ok (c.fact 96 (f := .meth "Line" "end") rfl)
  obtain ⟨fd_Line_integer, F_Line_integer⟩ := c.def_ 8 (d := d_Line_integer) rfl
  have g_Line_integer := He.meth_ok (c.fact 97 (f := .meth "Line" "integer") rfl)
  obtain ⟨fd_Line_read_rule, F_Line_read_rule⟩ := c.def_ 9 (d := d_Line_read_rule) rfl
  have g_Line_read_rule := He.meth_ok (c.fact 98 (f := .meth "Line" "read_rule") rfl)
  obtain ⟨fd_Line_some_letters, F_Line_some_letters⟩ := c.def_ 10 (d := d_Line_some_letters) rfl
  have g_Line_some_letters := He.meth_ok (c.fact 99 (f := .meth "Line" "some_letters") rfl)
  obtain ⟨fd_Line_some_rules, F_Line_some_rules⟩ := c.def_ 11 (d := d_Line_some_rules) rfl
  have g_Line_some_rules := He.meth_ok (c.fact 100 (f := .meth "Line" "some_rules") rfl)
  obtain ⟨fd_format_rule, F_format_rule⟩ := c.def_ 12 (d := d_format_rule) rfl
  have g_format_rule := He.glo_ok X G (c.fact 7 (f := .glo "format_rule") rfl)
  obtain ⟨fd_parse_rule, F_parse_rule⟩ := c.def_ 13 (d := d_parse_rule) rfl
  have g_parse_rule := He.glo_ok X G (c.fact 8 (f := .glo "parse_rule") rfl)
  obtain ⟨fd_format_word, F_format_word⟩ := c.def_ 14 (d := d_format_word) rfl
  have g_format_word := He.glo_ok X G (c.fact 9 (f := .glo "format_word") rfl)
  obtain ⟨fd_parse_word, F_parse_word⟩ := c.def_ 15 (d := d_parse_word) rfl
  have g_parse_word := He.glo_ok X G (c.fact 10 (f := .glo "parse_word") rfl)
  obtain ⟨fd_format_route, F_format_route⟩ := c.def_ 16 (d := d_format_route) rfl
  have g_format_route := He.glo_ok X G (c.fact 11 (f := .glo "format_route") rfl)
  obtain ⟨fd_parse_route, F_parse_route⟩ := c.def_ 17 (d := d_parse_route) rfl
  have g_parse_route := He.glo_ok X G (c.fact 12 (f := .glo "parse_route") rfl)
  obtain ⟨fd_format_positions, F_format_positions⟩ := c.def_ 18 (d := d_format_positions) rfl
  have g_format_positions := He.glo_ok X G (c.fact 13 (f := .glo "format_positions") rfl)
  obtain ⟨fd_parse_positions, F_parse_positions⟩ := c.def_ 19 (d := d_parse_positions) rfl
  have g_parse_positions := He.glo_ok X G (c.fact 14 (f := .glo "parse_positions") rfl)
  obtain ⟨fd_lines_of, F_lines_of⟩ := c.def_ 20 (d := d_lines_of) rfl
  have g_lines_of := He.glo_ok X G (c.fact 15 (f := .glo "lines_of") rfl)
  obtain ⟨fd_format_book, F_format_book⟩ := c.def_ 21 (d := d_format_book) rfl
  have g_format_book := He.glo_ok X G (c.fact 16 (f := .glo "format_book") rfl)
  obtain ⟨fd_parse_book, F_parse_book⟩ := c.def_ 22 (d := d_parse_book) rfl
  have g_parse_book := He.glo_ok X G (c.fact 17 (f := .glo "parse_book") rfl)
  obtain ⟨fd_format_net, F_format_net⟩ := c.def_ 23 (d := d_format_net) rfl
  have g_format_net := He.glo_ok X G (c.fact 18 (f := .glo "format_net") rfl)
  obtain ⟨fd_read_places, F_read_places⟩ := c.def_ 24 (d := d_read_places) rfl
  have g_read_places := He.glo_ok X G (c.fact 19 (f := .glo "read_places") rfl)
  obtain ⟨fd_read_place, F_read_place⟩ := c.def_ 25 (d := d_read_place) rfl
  have g_read_place := He.glo_ok X G (c.fact 20 (f := .glo "read_place") rfl)
  obtain ⟨fd_parse_net, F_parse_net⟩ := c.def_ 26 (d := d_parse_net) rfl
  have g_parse_net := He.glo_ok X G (c.fact 21 (f := .glo "parse_net") rfl)
  obtain ⟨fd_law_kneaded, F_law_kneaded⟩ := c.def_ 27 (d := d_law_kneaded) rfl
  have g_law_kneaded := He.glo_ok X G (c.fact 22 (f := .glo "_law_kneaded") rfl)
  obtain ⟨fd_law_pot_of, F_law_pot_of⟩ := c.def_ 28 (d := d_law_pot_of) rfl
  have g_law_pot_of := He.glo_ok X G (c.fact 23 (f := .glo "_law_pot_of") rfl)
  obtain ⟨fd_law_below, F_law_below⟩ := c.def_ 29 (d := d_law_below) rfl
  have g_law_below := He.glo_ok X G (c.fact 24 (f := .glo "_law_below") rfl)
  obtain ⟨fd_law_pick, F_law_pick⟩ := c.def_ 30 (d := d_law_pick) rfl
  have g_law_pick := He.glo_ok X G (c.fact 25 (f := .glo "_law_pick") rfl)
  obtain ⟨fd_law_same, F_law_same⟩ := c.def_ 31 (d := d_law_same) rfl
  have g_law_same := He.glo_ok X G (c.fact 26 (f := .glo "_law_same") rfl)
  obtain ⟨fd_law_some_letters, F_law_some_letters⟩ := c.def_ 32 (d := d_law_some_letters) rfl
  have g_law_some_letters := He.glo_ok X G (c.fact 27 (f := .glo "_law_some_letters") rfl)
  obtain ⟨fd_law_drawn_rule, F_law_drawn_rule⟩ := c.def_ 33 (d := d_law_drawn_rule) rfl
  have g_law_drawn_rule := He.glo_ok X G (c.fact 28 (f := .glo "_law_drawn_rule") rfl)
  obtain ⟨fd_law_parts_of, F_law_parts_of⟩ := c.def_ 34 (d := d_law_parts_of) rfl
  have g_law_parts_of := He.glo_ok X G (c.fact 29 (f := .glo "_law_parts_of") rfl)
  obtain ⟨fd_law_sizes_of, F_law_sizes_of⟩ := c.def_ 35 (d := d_law_sizes_of) rfl
  have g_law_sizes_of := He.glo_ok X G (c.fact 30 (f := .glo "_law_sizes_of") rfl)
  obtain ⟨fd_law_fit_rule, F_law_fit_rule⟩ := c.def_ 36 (d := d_law_fit_rule) rfl
  have g_law_fit_rule := He.glo_ok X G (c.fact 31 (f := .glo "_law_fit_rule") rfl)
  obtain ⟨fd_law_is_letter, F_law_is_letter⟩ := c.def_ 37 (d := d_law_is_letter) rfl
  have g_law_is_letter := He.glo_ok X G (c.fact 32 (f := .glo "_law_is_letter") rfl)
  obtain ⟨fd_law_tokens, F_law_tokens⟩ := c.def_ 38 (d := d_law_tokens) rfl
  have g_law_tokens := He.glo_ok X G (c.fact 33 (f := .glo "_law_tokens") rfl)
  obtain ⟨fd_law_integer_in, F_law_integer_in⟩ := c.def_ 39 (d := d_law_integer_in) rfl
  have g_law_integer_in := He.glo_ok X G (c.fact 34 (f := .glo "_law_integer_in") rfl)
  obtain ⟨fd_law_is_name, F_law_is_name⟩ := c.def_ 40 (d := d_law_is_name) rfl
  have g_law_is_name := He.glo_ok X G (c.fact 35 (f := .glo "_law_is_name") rfl)
  obtain ⟨fd_law_is_problem, F_law_is_problem⟩ := c.def_ 41 (d := d_law_is_problem) rfl
  have g_law_is_problem := He.glo_ok X G (c.fact 36 (f := .glo "_law_is_problem") rfl)
  obtain ⟨fd_law_fail, F_law_fail⟩ := c.def_ 42 (d := d_law_fail) rfl
  have g_law_fail := He.glo_ok X G (c.fact 37 (f := .glo "_law_fail") rfl)
  obtain ⟨fd_law_next, F_law_next⟩ := c.def_ 43 (d := d_law_next) rfl
  have g_law_next := He.glo_ok X G (c.fact 38 (f := .glo "_law_next") rfl)
  obtain ⟨fd_law_made_reader, F_law_made_reader⟩ := c.def_ 44 (d := d_law_made_reader) rfl
  have g_law_made_reader := He.glo_ok X G (c.fact 39 (f := .glo "_law_made_reader") rfl)
  obtain ⟨fd_law_read_rule, F_law_read_rule⟩ := c.def_ 45 (d := d_law_read_rule) rfl
  have g_law_read_rule := He.glo_ok X G (c.fact 40 (f := .glo "_law_read_rule") rfl)
  obtain ⟨fd_law_read_letter, F_law_read_letter⟩ := c.def_ 46 (d := d_law_read_letter) rfl
  have g_law_read_letter := He.glo_ok X G (c.fact 41 (f := .glo "_law_read_letter") rfl)
  obtain ⟨fd_law_whole, F_law_whole⟩ := c.def_ 47 (d := d_law_whole) rfl
  have g_law_whole := He.glo_ok X G (c.fact 42 (f := .glo "_law_whole") rfl)
  obtain ⟨fd_law_read_some, F_law_read_some⟩ := c.def_ 48 (d := d_law_read_some) rfl
  have g_law_read_some := He.glo_ok X G (c.fact 43 (f := .glo "_law_read_some") rfl)
  obtain ⟨fd_law_read_route, F_law_read_route⟩ := c.def_ 49 (d := d_law_read_route) rfl
  have g_law_read_route := He.glo_ok X G (c.fact 44 (f := .glo "_law_read_route") rfl)
  obtain ⟨fd_law_line_readers, F_law_line_readers⟩ := c.def_ 50 (d := d_law_line_readers) rfl
  have g_law_line_readers := He.glo_ok X G (c.fact 45 (f := .glo "_law_line_readers") rfl)
  obtain ⟨fd_law_read_book, F_law_read_book⟩ := c.def_ 51 (d := d_law_read_book) rfl
  have g_law_read_book := He.glo_ok X G (c.fact 46 (f := .glo "_law_read_book") rfl)
  obtain ⟨fd_law_read_net, F_law_read_net⟩ := c.def_ 52 (d := d_law_read_net) rfl
  have g_law_read_net := He.glo_ok X G (c.fact 47 (f := .glo "_law_read_net") rfl)
  obtain ⟨fd_law_read_road, F_law_read_road⟩ := c.def_ 53 (d := d_law_read_road) rfl
  have g_law_read_road := He.glo_ok X G (c.fact 48 (f := .glo "_law_read_road") rfl)
  obtain ⟨fd_law_read, F_law_read⟩ := c.def_ 54 (d := d_law_read) rfl
  have g_law_read := He.glo_ok X G (c.fact 49 (f := .glo "_law_read") rfl)
  obtain ⟨fd_law_parsed, F_law_parsed⟩ := c.def_ 55 (d := d_law_parsed) rfl
  have g_law_parsed := He.glo_ok X G (c.fact 50 (f := .glo "_law_parsed") rfl)
  obtain ⟨fd_law_rule_text, F_law_rule_text⟩ := c.def_ 56 (d := d_law_rule_text) rfl
  have g_law_rule_text := He.glo_ok X G (c.fact 51 (f := .glo "_law_rule_text") rfl)
  obtain ⟨fd_law_some_things, F_law_some_things⟩ := c.def_ 57 (d := d_law_some_things) rfl
  have g_law_some_things := He.glo_ok X G (c.fact 52 (f := .glo "_law_some_things") rfl)
  obtain ⟨fd_law_written, F_law_written⟩ := c.def_ 58 (d := d_law_written) rfl
  have g_law_written := He.glo_ok X G (c.fact 53 (f := .glo "_law_written") rfl)
  obtain ⟨fd_law_changed_text, F_law_changed_text⟩ := c.def_ 59 (d := d_law_changed_text) rfl
  have g_law_changed_text := He.glo_ok X G (c.fact 54 (f := .glo "_law_changed_text") rfl)
  obtain ⟨fd_law, F_law⟩ := c.def_ 60 (d := d_law) rfl
  have g_law := He.glo_ok X G (c.fact 55 (f := .glo "law") rfl)
  have bl := FunD.bindsA (ps := p_law) F_law fun _ _ _ _ _ _ us hl => match us, hl with | [_], _ => rfl
  refine ⟨fd_law, fun s v => bl s [v] rfl, fun base => ?_⟩
  have spk := sp base
  have c_is_name := ok_is_name (P := P) (w := w) (base := base) g F_is_name g_is_name
  have c_figures_in := ok_figures_in (P := P) (w := w) (base := base) g F_figures_in g_figures_in
  have c_is_letter := ok_is_letter (P := P) (w := w) (base := base) g F_is_letter g_is_letter c_is_name c_figures_in
  have c_law_is_name := ok_law_is_name (P := P) (w := w) (base := base) g F_law_is_name g_law_is_name
  have c_law_integer_in := ok_law_integer_in (P := P) (w := w) (base := base) g F_law_integer_in g_law_integer_in
  have c_law_is_letter := ok_law_is_letter (P := P) (w := w) (base := base) g F_law_is_letter g_law_is_letter
  have c_tokens_of := ok_tokens_of (P := P) (w := w) (base := base) g F_tokens_of g_tokens_of
  have c_law_tokens := ok_law_tokens (P := P) (w := w) (base := base) g F_law_tokens g_law_tokens
  have m_peek := ok_peek (P := P) (w := w) (base := base) g F_Line_peek g_Line_peek
  have m_take := ok_take (P := P) (w := w) (base := base) g spk F_Line_take g_Line_take
  have m_end := ok_end (P := P) (w := w) (base := base) g F_Line_end g_Line_end m_peek m_take
  have m_integer := ok_integer (P := P) (w := w) (base := base) g F_Line_integer g_Line_integer m_peek m_take c_figures_in
  have m_some_letters := ok_some_letters (P := P) (w := w) (base := base) g F_Line_some_letters g_Line_some_letters m_peek m_take c_is_letter
  have m_read_rule := (rules_all (P := P) (w := w) (base := base) g F_Line_read_rule g_Line_read_rule F_Line_some_rules g_Line_some_rules m_peek m_take m_some_letters 8).1
  have mkL : LnMk P w K mg base (He.ga K "Line") := ⟨_, _, He.mkr_ok (c.fact 101 (f := .mkr "Line") rfl), ok_init g F_Line_init c_tokens_of, F_Line_init.bindsN (fun _ _ _ _ _ _ us hl => match us, hl with | [_, _, _], _ => rfl)⟩
  have c_parse_rule := ok_parse_rule (P := P) (w := w) (base := base) g F_parse_rule g_parse_rule mkL m_read_rule m_end
  have c_parse_word := ok_parse_word (P := P) (w := w) (base := base) g F_parse_word g_parse_word mkL m_peek m_take c_is_letter
  have c_parse_positions := ok_parse_positions (P := P) (w := w) (base := base) g F_parse_positions g_parse_positions mkL m_peek m_integer
  have c_parse_route := ok_parse_route (P := P) (w := w) (base := base) g F_parse_route g_parse_route mkL m_peek m_take m_integer c_is_name c_figures_in
  have c_lines_of := ok_lines_of (P := P) (w := w) (base := base) g F_lines_of g_lines_of mkL m_peek
  have c_parse_book := ok_parse_book (P := P) (w := w) (base := base) g F_parse_book g_parse_book c_lines_of c_is_name m_peek m_take m_read_rule m_end
  have c_read_place := ok_read_place (P := P) (w := w) (base := base) g F_read_place g_read_place m_peek m_take c_figures_in
  have c_read_places := ok_read_places (P := P) (w := w) (base := base) g F_read_places g_read_places m_peek m_take c_figures_in
  have c_parse_net := ok_parse_net (P := P) (w := w) (base := base) g spk F_parse_net g_parse_net c_lines_of c_read_places c_read_place c_is_letter m_peek m_take m_integer m_end
  have c_law_next := ok_law_next (P := P) (w := w) (base := base) g F_law_next g_law_next
  have c_law_fail := ok_law_fail (P := P) (w := w) (base := base) g F_law_fail g_law_fail
  have c_law_made_reader := ok_law_made_reader (P := P) (w := w) (base := base) g F_law_made_reader g_law_made_reader c_law_tokens
  have c_law_is_problem := ok_law_is_problem (P := P) (w := w) (base := base) g F_law_is_problem g_law_is_problem
  have c_law_whole := ok_law_whole (P := P) (w := w) (base := base) g F_law_whole g_law_whole c_law_is_problem c_law_next c_law_fail
  have c_law_read_letter := ok_law_read_letter (P := P) (w := w) (base := base) g F_law_read_letter g_law_read_letter c_law_is_letter c_law_next c_law_fail
  have c_law_read_rule := lrules_all (P := P) (w := w) (base := base) g F_law_read_rule g_law_read_rule c_law_next c_law_fail c_law_is_problem c_law_read_letter 8
  have c_law_read_some := ok_law_read_some (P := P) (w := w) (base := base) g F_law_read_some g_law_read_some c_law_next c_law_fail c_law_is_letter c_law_integer_in
  have c_law_read_route := ok_law_read_route (P := P) (w := w) (base := base) g F_law_read_route g_law_read_route c_law_next c_law_fail c_law_is_name c_law_integer_in
  have c_law_line_readers := ok_law_line_readers (P := P) (w := w) (base := base) g F_law_line_readers g_law_line_readers c_law_made_reader c_law_next
  have c_law_read_road := ok_law_read_road (P := P) (w := w) (base := base) g F_law_read_road g_law_read_road c_law_next c_law_fail c_law_is_letter c_law_integer_in c_law_whole
  have c_law_read_net := ok_law_read_net (P := P) (w := w) (base := base) g F_law_read_net g_law_read_net c_law_line_readers c_law_next c_law_fail c_law_integer_in c_law_is_problem c_law_read_road
  have c_law_read_book := ok_law_read_book (P := P) (w := w) (base := base) g F_law_read_book g_law_read_book c_law_line_readers c_law_next c_law_fail c_law_is_name c_law_is_problem c_law_whole c_law_read_rule
  have c_law_read := ok_law_read (P := P) (w := w) (base := base) g F_law_read g_law_read c_law_read_book c_law_read_net c_law_made_reader c_law_whole c_law_read_rule c_law_read_route c_law_read_some
  have c_format_rule := frules_all (P := P) (w := w) (base := base) g F_format_rule g_format_rule 4
  have c_law_rule_text := lrtexts_all (P := P) (w := w) (base := base) g F_law_rule_text g_law_rule_text 4
  have c_format_word := ok_format_word (P := P) (w := w) (base := base) g F_format_word g_format_word
  have c_format_positions := ok_format_positions (P := P) (w := w) (base := base) g F_format_positions g_format_positions
  have c_format_route := ok_format_route (P := P) (w := w) (base := base) g F_format_route g_format_route
  have c_format_book := ok_format_book (P := P) (w := w) (base := base) g F_format_book g_format_book c_format_rule
  have c_format_net := ok_format_net (P := P) (w := w) (base := base) g F_format_net g_format_net
  have c_law_written := ok_law_written (P := P) (w := w) (base := base) g F_law_written g_law_written c_format_rule c_format_book c_format_net c_format_route c_format_word c_format_positions
  have c_law_parsed := ok_law_parsed (P := P) (w := w) (base := base) g gs F_law_parsed g_law_parsed c_parse_book c_parse_net c_parse_rule c_parse_route c_parse_word c_parse_positions
  have c_law_kneaded := ok_law_kneaded (P := P) (w := w) (base := base) g F_law_kneaded g_law_kneaded
  have c_law_below := ok_law_below (P := P) (w := w) (base := base) g F_law_below g_law_below c_law_kneaded
  have c_law_pick := ok_law_pick (P := P) (w := w) (base := base) g F_law_pick g_law_pick c_law_below
  have c_law_some_letters := ok_law_some_letters (P := P) (w := w) (base := base) g F_law_some_letters g_law_some_letters c_law_pick
  have c_law_drawn_rule := drawn_all (P := P) (w := w) (base := base) g F_law_drawn_rule g_law_drawn_rule c_law_below c_law_pick 4
  have c_law_parts_of := fun k => ok_law_parts_of (P := P) (w := w) (base := base) (k := k) g F_law_parts_of g_law_parts_of
  have c_law_sizes_of := sizes_all (P := P) (w := w) (base := base) g F_law_sizes_of g_law_sizes_of c_law_parts_of 4
  have c_law_fit_rule := ok_law_fit_rule (P := P) (w := w) (base := base) g F_law_fit_rule g_law_fit_rule c_law_drawn_rule c_law_sizes_of
  have c_law_same := ok_law_same (P := P) (w := w) (base := base) g F_law_same g_law_same
  have c_law_changed_text := ok_law_changed_text (P := P) (w := w) (base := base) g F_law_changed_text g_law_changed_text c_law_below c_law_pick
  have c_law_pot_of := ok_law_pot_of (P := P) (w := w) (base := base) g F_law_pot_of g_law_pot_of
  have c_law_some_things := ok_law_some_things (P := P) (w := w) (base := base) g F_law_some_things g_law_some_things c_law_below c_law_pick c_law_some_letters c_law_fit_rule c_law_rule_text
  exact ok_law (P := P) (w := w) (base := base) g F_law c_law_pot_of c_law_some_things c_law_written c_law_same c_law_parsed c_law_changed_text c_law_pick c_law_read
end
end T65
end
open PySem PySem.W PySem.Calls PyProof.Rows
theorem PySem.Challenge.cw_toldroads_k65_whole_texts_read_holds : PySem.Challenge.rw_toldroads_k65_whole_texts_read.Holds := by
  w_on; o_law
  refine HandSHeadRun.head_any (r := OpenLaw.row PySem.Challenge.rw_toldroads_k65_whole_texts_read) (q := view (OpenLaw.row PySem.Challenge.rw_toldroads_k65_whole_texts_read).prog [75]) (H := T65.hk) (ob := T65.ob) (M := 4000) (loose := T65.loose)
    (d := HandSHeadRun.topDef (OpenLaw.row PySem.Challenge.rw_toldroads_k65_whole_texts_read).prog 75) (kwd := []) T65.ob_eq
    (by kernel_rfl) (fun s => by kernel_rfl) T65.run (by kernel_rfl) (by kernel_rfl) (by kernel_rfl) (by rfl) (by first | assumption | decide +kernel) (by decide +kernel) ⟨rfl, rfl, rfl, rfl, rfl, by decide +kernel⟩ ?hw ?hc
  case hw => w_witness2
  case hc =>
    refine T65.walkG (l := PySem.Challenge.rw_toldroads_k65_whole_texts_read) (n := 63) (k := 25) (x := "_law_script") rfl (by decide) (by kernel_rfl) ⟨rfl, by decide, by decide⟩ ?F
    intro w mg fa h Y G hmg0
    obtain ⟨K, KX, c⟩ := Y
    have hmg : mg ("law" : PySem.Str) = some (.ref fa) := by
      have e : (HandSHeadRun.topDef (OpenLaw.row PySem.Challenge.rw_toldroads_k65_whole_texts_read).prog 75).name = ("law" : PySem.Str) := by kernel_rfl
      rw [← e]
      exact hmg0
    have cD : He.SaysD T65.fa T65.fn K := congrArg (fun z : T65.AlX => z.1) c
    have ef := hmg.symm.trans (He.glo_ok KX G (cD.fact 55 (f := .glo "law") rfl))
    cases ef
    obtain ⟨fd, hb, hF⟩ := T65.all_of (P := (PySem.Challenge.rw_toldroads_k65_whole_texts_read).prog) (w := w) KX G c (by kernel_rfl) (by kernel_rfl)
    exact ⟨K, fd, T65.spLaw K, KX, hb, fun H a ns hl _ hS => ⟨a, ns, rfl, hS, fun _ => rfl⟩, fun base _ _ => hF base⟩
