import PyProof.Rows.All
import Wide.All
import OpenK.AllK
import Wide.FinOn
import KE.KStateDown
import HandS.ForMost
import HandS.More
import HandS.Exc
import HandS.Defaults
import HandS.ClsMeth
import HandS.Head0
import HandS.Head1
import HandS.Head2
import HandS.HeadEnd
import HandS.HeadHook1
import HandS.HeadHook2
import PyProof.LongRange
import KE.GoesNew
import KE.KDictKeyed
import KE.KDictDisplayH
import HandS.TupAny
import HandS.Style
import HandS.NoneIn
import HandS.IsInst
import HandS.Zip
import HandS.SetFor
import HandS.RaiseMore
import HandS.Walk
import PySem.Challenge.RW_fourvoices_k42_paper_of_counts
set_option Elab.async false
set_option linter.all false
set_option maxRecDepth 100000
set_option maxHeartbeats 4000000
/-! The text by places, the scopes of its defs, what the head tells of them. -/
namespace Fv
open PySem PySem.Spec PyProof.Rows L2
def topS (i : Nat) : Stmt := PySem.Challenge.pw_fourvoices_k42_paper_of_counts.main.body.getD i (.Pass ⟨0, 0, 0, 0⟩)
abbrev s_is_number : Stmt := topS 8
abbrev N_is_number : List Str := ["word", "figures", "sign"]
theorem sc_is_number : FnScope N_is_number ["word"] (defScope s_is_number) := ⟨rfl, rfl, rfl, by decide +kernel, rfl, by decide +kernel, by decide +kernel⟩
abbrev s_agrees : Stmt := topS 10
abbrev N_agrees : List Str := ["column", "given", "voice"]
theorem sc_agrees : FnScope N_agrees ["column", "given"] (defScope s_agrees) := ⟨rfl, rfl, rfl, by decide +kernel, rfl, by decide +kernel, by decide +kernel⟩
abbrev s_weight : Stmt := topS 20
abbrev N_weight : List Str := ["score", "found", "rule", "low", "high"]
theorem sc_weight : FnScope N_weight ["score"] (defScope s_weight) := ⟨rfl, rfl, rfl, by decide +kernel, rfl, by decide +kernel, by decide +kernel⟩
abbrev s_columns : Stmt := topS 21
abbrev N_columns : List Str := ["score", "found", "low", "high", "longer", "column", "note"]
theorem sc_columns : FnScope N_columns ["score"] (defScope s_columns) := ⟨rfl, rfl, rfl, by decide +kernel, rfl, by decide +kernel, by decide +kernel⟩
abbrev s_agreeing : Stmt := topS 23
abbrev N_agreeing : List Str := ["machine", "given", "column"]
theorem sc_agreeing : FnScope N_agreeing ["machine", "given"] (defScope s_agreeing) := ⟨rfl, rfl, rfl, by decide +kernel, rfl, by decide +kernel, by decide +kernel⟩
abbrev s_ways_on : Stmt := topS 24
abbrev N_ways_on : List Str := ["machine", "state", "offers", "ahead", "total", "column", "behind"]
theorem sc_ways_on : FnScope N_ways_on ["machine", "state", "offers", "ahead"] (defScope s_ways_on) := ⟨rfl, rfl, rfl, by decide +kernel, rfl, by decide +kernel, by decide +kernel⟩
abbrev s_counts_paper : Stmt := topS 25
abbrev N_counts_paper : List Str := ["machine", "pattern", "paper", "given", "offers", "ahead", "state"]
theorem sc_counts_paper : FnScope N_counts_paper ["machine", "pattern"] (defScope s_counts_paper) := ⟨rfl, rfl, rfl, by decide +kernel, rfl, by decide +kernel, by decide +kernel⟩
abbrev s_counted : Stmt := topS 26
abbrev N_counted : List Str := ["machine", "pattern"]
theorem sc_counted : FnScope N_counted ["machine", "pattern"] (defScope s_counted) := ⟨rfl, rfl, rfl, by decide +kernel, rfl, by decide +kernel, by decide +kernel⟩
abbrev s_first_state : Stmt := topS 28
abbrev N_first_state : List Str := ["score", "rule"]
theorem sc_first_state : FnScope N_first_state ["score"] (defScope s_first_state) := ⟨rfl, rfl, rfl, by decide +kernel, rfl, by decide +kernel, by decide +kernel⟩
abbrev s_next_state : Stmt := topS 29
abbrev N_next_state : List Str := ["score", "state", "column", "found", "before", "memories", "rule", "memory", "behind"]
theorem sc_next_state : FnScope N_next_state ["score", "state", "column"] (defScope s_next_state) := ⟨rfl, rfl, rfl, by decide +kernel, rfl, by decide +kernel, by decide +kernel⟩
abbrev s_ends_well : Stmt := topS 30
abbrev N_ends_well : List Str := ["score", "state", "last", "memories", "rule", "memory"]
theorem sc_ends_well : FnScope N_ends_well ["score", "state"] (defScope s_ends_well) := ⟨rfl, rfl, rfl, by decide +kernel, rfl, by decide +kernel, by decide +kernel⟩
abbrev s_numbers_of : Stmt := topS 45
abbrev N_numbers_of : List Str := ["words", "row", "found", "word"]
theorem sc_numbers_of : FnScope N_numbers_of ["words", "row"] (defScope s_numbers_of) := ⟨rfl, rfl, rfl, by decide +kernel, rfl, by decide +kernel, by decide +kernel⟩
abbrev s_some_of : Stmt := topS 46
abbrev N_some_of : List Str := ["numbers", "row"]
theorem sc_some_of : FnScope N_some_of ["numbers", "row"] (defScope s_some_of) := ⟨rfl, rfl, rfl, by decide +kernel, rfl, by decide +kernel, by decide +kernel⟩
abbrev s_look_at : Stmt := topS 47
abbrev N_look_at : List Str := ["good", "row"]
theorem sc_look_at : FnScope N_look_at ["good", "row"] (defScope s_look_at) := ⟨rfl, rfl, rfl, by decide +kernel, rfl, by decide +kernel, by decide +kernel⟩
abbrev s_column_rule : Stmt := topS 48
abbrev N_column_rule : List Str := ["text", "kind", "numbers", "voices", "row", "one", "other"]
theorem sc_column_rule : FnScope N_column_rule ["text", "kind", "numbers", "voices", "row"] (defScope s_column_rule) := ⟨rfl, rfl, rfl, by decide +kernel, rfl, by decide +kernel, by decide +kernel⟩
abbrev s_alike_rule : Stmt := topS 49
abbrev N_alike_rule : List Str := ["text", "numbers", "voices", "row", "one", "other"]
theorem sc_alike_rule : FnScope N_alike_rule ["text", "numbers", "voices", "row"] (defScope s_alike_rule) := ⟨rfl, rfl, rfl, by decide +kernel, rfl, by decide +kernel, by decide +kernel⟩
abbrev s_voice_rule : Stmt := topS 50
abbrev N_voice_rule : List Str := ["text", "kind", "numbers", "voices", "row", "voice", "rest"]
theorem sc_voice_rule : FnScope N_voice_rule ["text", "kind", "numbers", "voices", "row"] (defScope s_voice_rule) := ⟨rfl, rfl, rfl, by decide +kernel, rfl, by decide +kernel, by decide +kernel⟩
abbrev s_every_rule : Stmt := topS 51
abbrev N_every_rule : List Str := ["text", "words", "voices", "row", "inner", "beat", "at"]
theorem sc_every_rule : FnScope N_every_rule ["text", "words", "voices", "row"] (defScope s_every_rule) := ⟨rfl, rfl, rfl, by decide +kernel, rfl, by decide +kernel, by decide +kernel⟩
abbrev s_read_rule : Stmt := topS 52
abbrev N_read_rule : List Str := ["text", "voices", "row", "words", "kind", "numbers"]
theorem sc_read_rule : FnScope N_read_rule ["text", "voices", "row"] (defScope s_read_rule) := ⟨rfl, rfl, rfl, by decide +kernel, rfl, by decide +kernel, by decide +kernel⟩
abbrev s_read_range : Stmt := topS 56
abbrev N_read_range : List Str := ["text", "row", "words"]
theorem sc_read_range : FnScope N_read_range ["text", "row"] (defScope s_read_range) := ⟨rfl, rfl, rfl, by decide +kernel, rfl, by decide +kernel, by decide +kernel⟩
abbrev s_read : Stmt := topS 57
abbrev N_read : List Str := ["text", "ranges", "rules", "score", "row", "told"]
theorem sc_read : FnScope N_read ["text"] (defScope s_read) := ⟨rfl, rfl, rfl, by decide +kernel, rfl, by decide +kernel, by decide +kernel⟩
abbrev s__law_at : Stmt := topS 59
abbrev N__law_at : List Str := ["_law_script", "_law_k"]
theorem sc__law_at : FnScope N__law_at ["_law_script", "_law_k"] (defScope s__law_at) := ⟨rfl, rfl, rfl, by decide +kernel, rfl, by decide +kernel, by decide +kernel⟩
abbrev s__law_draws : Stmt := topS 60
abbrev N__law_draws : List Str := ["_law_cell", "_law_many", "_law_digits", "_law_rest", "_law_seed", "_law_found", "_law_k"]
theorem sc__law_draws : FnScope N__law_draws ["_law_cell", "_law_many"] (defScope s__law_draws) := ⟨rfl, rfl, rfl, by decide +kernel, rfl, by decide +kernel, by decide +kernel⟩
abbrev s__law_ranges : Stmt := topS 61
abbrev N__law_ranges : List Str := ["_law_script", "_law_most", "_law_ways", "_law_voices", "_law_great", "_law_low", "_law_far", "_law_found", "_law_k", "_law_wide", "_law_first"]
theorem sc__law_ranges : FnScope N__law_ranges ["_law_script", "_law_most"] (defScope s__law_ranges) := ⟨rfl, rfl, rfl, by decide +kernel, rfl, by decide +kernel, by decide +kernel⟩
abbrev s__law_columns : Stmt := topS 62
abbrev N__law_columns : List Str := ["_law_ranges_here", "_law_found", "_law_low", "_law_high", "_law_longer", "_law_column", "_law_note"]
theorem sc__law_columns : FnScope N__law_columns ["_law_ranges_here"] (defScope s__law_columns) := ⟨rfl, rfl, rfl, by decide +kernel, rfl, by decide +kernel, by decide +kernel⟩
abbrev s__law_some : Stmt := topS 63
abbrev N__law_some : List Str := ["_law_ways", "_law_least", "_law_wide", "_law_many", "_law_k"]
theorem sc__law_some : FnScope N__law_some ["_law_ways", "_law_least", "_law_wide"] (defScope s__law_some) := ⟨rfl, rfl, rfl, by decide +kernel, rfl, by decide +kernel, by decide +kernel⟩
abbrev s__law_pair_rule : Stmt := topS 64
abbrev N__law_pair_rule : List Str := ["_law_ways", "_law_ranges_here", "_law_kind", "_law_one", "_law_other", "_law_least", "_law_wide", "_law_some_here", "_law_by", "_law_number"]
theorem sc__law_pair_rule : FnScope N__law_pair_rule ["_law_ways", "_law_ranges_here", "_law_kind"] (defScope s__law_pair_rule) := ⟨rfl, rfl, rfl, by decide +kernel, rfl, by decide +kernel, by decide +kernel⟩
abbrev s__law_voice_rule : Stmt := topS 65
abbrev N__law_voice_rule : List Str := ["_law_ways", "_law_ranges_here", "_law_kind", "_law_voice", "_law_wide", "_law_low", "_law_high", "_law_most"]
theorem sc__law_voice_rule : FnScope N__law_voice_rule ["_law_ways", "_law_ranges_here", "_law_kind"] (defScope s__law_voice_rule) := ⟨rfl, rfl, rfl, by decide +kernel, rfl, by decide +kernel, by decide +kernel⟩
abbrev s__law_rule : Stmt := topS 66
abbrev N__law_rule : List Str := ["_law_cell", "_law_ranges_here", "_law_ways", "_law_kind", "_law_by"]
theorem sc__law_rule : FnScope N__law_rule ["_law_cell", "_law_ranges_here"] (defScope s__law_rule) := ⟨rfl, rfl, rfl, by decide +kernel, rfl, by decide +kernel, by decide +kernel⟩
abbrev s__law_size : Stmt := topS 67
abbrev N__law_size : List Str := ["_law_rule_here"]
theorem sc__law_size : FnScope N__law_size ["_law_rule_here"] (defScope s__law_size) := ⟨rfl, rfl, rfl, by decide +kernel, rfl, by decide +kernel, by decide +kernel⟩
abbrev s__law_rules : Stmt := topS 68
abbrev N__law_rules : List Str := ["_law_script", "_law_ranges_here", "_law_cap", "_law_weight_of", "_law_many", "_law_found", "_law_k", "_law_cell", "_law_rule_here"]
theorem sc__law_rules : FnScope N__law_rules ["_law_script", "_law_ranges_here", "_law_cap"] (defScope s__law_rules) := ⟨rfl, rfl, rfl, by decide +kernel, rfl, by decide +kernel, by decide +kernel⟩
abbrev s__law_row : Stmt := topS 69
abbrev N__law_row : List Str := ["_law_rule_here", "_law_words", "_law_part", "_law_number"]
theorem sc__law_row : FnScope N__law_row ["_law_rule_here"] (defScope s__law_row) := ⟨rfl, rfl, rfl, by decide +kernel, rfl, by decide +kernel, by decide +kernel⟩
abbrev s__law_text : Stmt := topS 70
abbrev N__law_text : List Str := ["_law_ranges_here", "_law_rules_here", "_law_rows", "_law_low", "_law_high", "_law_rule_here"]
theorem sc__law_text : FnScope N__law_text ["_law_ranges_here", "_law_rules_here"] (defScope s__law_text) := ⟨rfl, rfl, rfl, by decide +kernel, rfl, by decide +kernel, by decide +kernel⟩
abbrev s__law_span : Stmt := topS 71
abbrev N__law_span : List Str := ["_law_rule_here", "_law_column"]
theorem sc__law_span : FnScope N__law_span ["_law_rule_here", "_law_column"] (defScope s__law_span) := ⟨rfl, rfl, rfl, by decide +kernel, rfl, by decide +kernel, by decide +kernel⟩
abbrev s__law_pair_broken : Stmt := topS 72
abbrev N__law_pair_broken : List Str := ["_law_rule_here", "_law_line_here", "_law_k", "_law_span_here"]
theorem sc__law_pair_broken : FnScope N__law_pair_broken ["_law_rule_here", "_law_line_here", "_law_k"] (defScope s__law_pair_broken) := ⟨rfl, rfl, rfl, by decide +kernel, rfl, by decide +kernel, by decide +kernel⟩
abbrev s__law_turned_ill : Stmt := topS 73
abbrev N__law_turned_ill : List Str := ["_law_first", "_law_second", "_law_most"]
theorem sc__law_turned_ill : FnScope N__law_turned_ill ["_law_first", "_law_second", "_law_most"] (defScope s__law_turned_ill) := ⟨rfl, rfl, rfl, by decide +kernel, rfl, by decide +kernel, by decide +kernel⟩
abbrev s__law_broken : Stmt := topS 74
abbrev N__law_broken : List Str := ["_law_rule_here", "_law_line_here", "_law_k", "_law_notes", "_law_moves", "_law_column", "_law_j"]
theorem sc__law_broken : FnScope N__law_broken ["_law_rule_here", "_law_line_here", "_law_k"] (defScope s__law_broken) := ⟨rfl, rfl, rfl, by decide +kernel, rfl, by decide +kernel, by decide +kernel⟩
abbrev s__law_unbroken : Stmt := topS 77
abbrev N__law_unbroken : List Str := ["_law_line_here", "_law_some_here", "_law_at_here", "_law_rules_here", "_law_k", "_law_column", "_law_longer", "_law_ill", "_law_rule_here"]
theorem sc__law_unbroken : FnScope N__law_unbroken ["_law_line_here", "_law_some_here", "_law_at_here", "_law_rules_here"] (defScope s__law_unbroken) := ⟨rfl, rfl, rfl, by decide +kernel, rfl, by decide +kernel, by decide +kernel⟩
abbrev s__law_line : Stmt := topS 78
abbrev N__law_line : List Str := ["_law_line_here", "_law_cells_here", "_law_ranges_here", "_law_rules_here", "_law_some_here", "_law_cell"]
theorem sc__law_line : FnScope N__law_line ["_law_line_here", "_law_cells_here", "_law_ranges_here", "_law_rules_here"] (defScope s__law_line) := ⟨rfl, rfl, rfl, by decide +kernel, rfl, by decide +kernel, by decide +kernel⟩
abbrev s__law_cells : Stmt := topS 79
abbrev N__law_cells : List Str := ["_law_script", "_law_start", "_law_many", "_law_found", "_law_k"]
theorem sc__law_cells : FnScope N__law_cells ["_law_script", "_law_start", "_law_many"] (defScope s__law_cells) := ⟨rfl, rfl, rfl, by decide +kernel, rfl, by decide +kernel, by decide +kernel⟩
abbrev s__law_pattern : Stmt := topS 80
abbrev N__law_pattern : List Str := ["_law_line_here", "_law_cell", "_law_ways", "_law_found", "_law_k", "_law_column", "_law_j"]
theorem sc__law_pattern : FnScope N__law_pattern ["_law_line_here", "_law_cell"] (defScope s__law_pattern) := ⟨rfl, rfl, rfl, by decide +kernel, rfl, by decide +kernel, by decide +kernel⟩
abbrev s__law_agrees : Stmt := topS 81
abbrev N__law_agrees : List Str := ["_law_column", "_law_given", "_law_k"]
theorem sc__law_agrees : FnScope N__law_agrees ["_law_column", "_law_given"] (defScope s__law_agrees) := ⟨rfl, rfl, rfl, by decide +kernel, rfl, by decide +kernel, by decide +kernel⟩
abbrev s__law_whole : Stmt := topS 82
abbrev N__law_whole : List Str := ["_law_found"]
theorem sc__law_whole : FnScope N__law_whole ["_law_found"] (defScope s__law_whole) := ⟨rfl, rfl, rfl, by decide +kernel, rfl, by decide +kernel, by decide +kernel⟩
abbrev s__law_drawn : Stmt := topS 83
abbrev N__law_drawn : List Str := ["_law_script", "_law_few", "_law_ranges_here", "_law_rules_here"]
theorem sc__law_drawn : FnScope N__law_drawn ["_law_script", "_law_few"] (defScope s__law_drawn) := ⟨rfl, rfl, rfl, by decide +kernel, rfl, by decide +kernel, by decide +kernel⟩
abbrev s__law_numbers : Stmt := topS 84
abbrev N__law_numbers : List Str := ["_law_row_here", "_law_states", "_law_number"]
theorem sc__law_numbers : FnScope N__law_numbers ["_law_row_here", "_law_states"] (defScope s__law_numbers) := ⟨rfl, rfl, rfl, by decide +kernel, rfl, by decide +kernel, by decide +kernel⟩
abbrev s__law_sum : Stmt := topS 85
abbrev N__law_sum : List Str := ["_law_machine", "_law_state", "_law_some_here", "_law_beyond", "_law_total", "_law_column", "_law_behind"]
theorem sc__law_sum : FnScope N__law_sum ["_law_machine", "_law_state", "_law_some_here", "_law_beyond"] (defScope s__law_sum) := ⟨rfl, rfl, rfl, by decide +kernel, rfl, by decide +kernel, by decide +kernel⟩
abbrev s__law_walked : Stmt := topS 86
abbrev N__law_walked : List Str := ["_law_machine", "_law_ranges_here", "_law_pattern_here", "_law_paper", "_law_states", "_law_state", "_law_k", "_law_some_here", "_law_column", "_law_row_here"]
theorem sc__law_walked : FnScope N__law_walked ["_law_machine", "_law_ranges_here", "_law_pattern_here", "_law_paper"] (defScope s__law_walked) := ⟨rfl, rfl, rfl, by decide +kernel, rfl, by decide +kernel, by decide +kernel⟩
abbrev s_law : Stmt := topS 87
abbrev N_law : List Str := ["_law_script", "_law_line_here", "_law_pattern_here", "_law_machine", "_law_handed", "_law_paper", "_law_again", "_law_found", "_law_ranges_here", "_law_rules_here"]
theorem sc_law : FnScope N_law ["_law_script"] (defScope s_law) := ⟨rfl, rfl, rfl, by decide +kernel, rfl, by decide +kernel, by decide +kernel⟩
abbrev s_Rule_init : Stmt := inClass (topS 12) 0
abbrev N_Rule_init : List Str := ["self", "told"]
theorem sc_Rule_init : FnScope N_Rule_init ["self", "told"] (defScope s_Rule_init) := ⟨rfl, rfl, rfl, by decide +kernel, rfl, by decide +kernel, by decide +kernel⟩
abbrev s_Rule_size : Stmt := inClass (topS 12) 1
abbrev N_Rule_size : List Str := ["self"]
theorem sc_Rule_size : FnScope N_Rule_size ["self"] (defScope s_Rule_size) := ⟨rfl, rfl, rfl, by decide +kernel, rfl, by decide +kernel, by decide +kernel⟩
abbrev s_Rule_start : Stmt := inClass (topS 12) 2
abbrev N_Rule_start : List Str := ["self"]
theorem sc_Rule_start : FnScope N_Rule_start ["self"] (defScope s_Rule_start) := ⟨rfl, rfl, rfl, by decide +kernel, rfl, by decide +kernel, by decide +kernel⟩
abbrev s_Rule_after : Stmt := inClass (topS 12) 3
abbrev N_Rule_after : List Str := ["self", "memory", "before", "column"]
theorem sc_Rule_after : FnScope N_Rule_after ["self", "memory", "before", "column"] (defScope s_Rule_after) := ⟨rfl, rfl, rfl, by decide +kernel, rfl, by decide +kernel, by decide +kernel⟩
abbrev s_Rule_closes : Stmt := inClass (topS 12) 4
abbrev N_Rule_closes : List Str := ["self", "memory", "last"]
theorem sc_Rule_closes : FnScope N_Rule_closes ["self", "memory", "last"] (defScope s_Rule_closes) := ⟨rfl, rfl, rfl, by decide +kernel, rfl, by decide +kernel, by decide +kernel⟩
abbrev s_Span_init : Stmt := inClass (topS 13) 0
abbrev N_Span_init : List Str := ["self", "told", "one", "other", "some"]
theorem sc_Span_init : FnScope N_Span_init ["self", "told", "one", "other", "some"] (defScope s_Span_init) := ⟨rfl, rfl, rfl, by decide +kernel, rfl, by decide +kernel, by decide +kernel⟩
abbrev s_Span_after : Stmt := inClass (topS 13) 1
abbrev N_Span_after : List Str := ["self", "memory", "before", "column"]
theorem sc_Span_after : FnScope N_Span_after ["self", "memory", "before", "column"] (defScope s_Span_after) := ⟨rfl, rfl, rfl, by decide +kernel, rfl, by decide +kernel, by decide +kernel⟩
abbrev s_Clock_init : Stmt := inClass (topS 14) 0
abbrev N_Clock_init : List Str := ["self", "told", "one", "other", "beat", "some"]
theorem sc_Clock_init : FnScope N_Clock_init ["self", "told", "one", "other", "beat", "some"] (defScope s_Clock_init) := ⟨rfl, rfl, rfl, by decide +kernel, rfl, by decide +kernel, by decide +kernel⟩
abbrev s_Clock_after : Stmt := inClass (topS 14) 1
abbrev N_Clock_after : List Str := ["self", "memory", "before", "column"]
theorem sc_Clock_after : FnScope N_Clock_after ["self", "memory", "before", "column"] (defScope s_Clock_after) := ⟨rfl, rfl, rfl, by decide +kernel, rfl, by decide +kernel, by decide +kernel⟩
abbrev s_Begin_init : Stmt := inClass (topS 15) 0
abbrev N_Begin_init : List Str := ["self", "told", "voice", "some"]
theorem sc_Begin_init : FnScope N_Begin_init ["self", "told", "voice", "some"] (defScope s_Begin_init) := ⟨rfl, rfl, rfl, by decide +kernel, rfl, by decide +kernel, by decide +kernel⟩
abbrev s_Begin_after : Stmt := inClass (topS 15) 1
abbrev N_Begin_after : List Str := ["self", "memory", "before", "column"]
theorem sc_Begin_after : FnScope N_Begin_after ["self", "memory", "before", "column"] (defScope s_Begin_after) := ⟨rfl, rfl, rfl, by decide +kernel, rfl, by decide +kernel, by decide +kernel⟩
abbrev s_Close_init : Stmt := inClass (topS 16) 0
abbrev N_Close_init : List Str := ["self", "told", "voice", "some"]
theorem sc_Close_init : FnScope N_Close_init ["self", "told", "voice", "some"] (defScope s_Close_init) := ⟨rfl, rfl, rfl, by decide +kernel, rfl, by decide +kernel, by decide +kernel⟩
abbrev s_Close_closes : Stmt := inClass (topS 16) 1
abbrev N_Close_closes : List Str := ["self", "memory", "last"]
theorem sc_Close_closes : FnScope N_Close_closes ["self", "memory", "last"] (defScope s_Close_closes) := ⟨rfl, rfl, rfl, by decide +kernel, rfl, by decide +kernel, by decide +kernel⟩
abbrev s_Back_init : Stmt := inClass (topS 36) 0
abbrev N_Back_init : List Str := ["self", "told", "voice", "far"]
theorem sc_Back_init : FnScope N_Back_init ["self", "told", "voice", "far"] (defScope s_Back_init) := ⟨rfl, rfl, rfl, by decide +kernel, rfl, by decide +kernel, by decide +kernel⟩
abbrev s_Back_size : Stmt := inClass (topS 36) 1
abbrev N_Back_size : List Str := ["self"]
theorem sc_Back_size : FnScope N_Back_size ["self"] (defScope s_Back_size) := ⟨rfl, rfl, rfl, by decide +kernel, rfl, by decide +kernel, by decide +kernel⟩
abbrev s_Back_start : Stmt := inClass (topS 36) 2
abbrev N_Back_start : List Str := ["self"]
theorem sc_Back_start : FnScope N_Back_start ["self"] (defScope s_Back_start) := ⟨rfl, rfl, rfl, by decide +kernel, rfl, by decide +kernel, by decide +kernel⟩
abbrev s_Back_after : Stmt := inClass (topS 36) 3
abbrev N_Back_after : List Str := ["self", "memory", "before", "column", "move"]
theorem sc_Back_after : FnScope N_Back_after ["self", "memory", "before", "column"] (defScope s_Back_after) := ⟨rfl, rfl, rfl, by decide +kernel, rfl, by decide +kernel, by decide +kernel⟩
abbrev s_Back_closes : Stmt := inClass (topS 36) 4
abbrev N_Back_closes : List Str := ["self", "memory", "last"]
theorem sc_Back_closes : FnScope N_Back_closes ["self", "memory", "last"] (defScope s_Back_closes) := ⟨rfl, rfl, rfl, by decide +kernel, rfl, by decide +kernel, by decide +kernel⟩
abbrev s_Held_init : Stmt := inClass (topS 37) 0
abbrev N_Held_init : List Str := ["self", "told", "voice", "most"]
theorem sc_Held_init : FnScope N_Held_init ["self", "told", "voice", "most"] (defScope s_Held_init) := ⟨rfl, rfl, rfl, by decide +kernel, rfl, by decide +kernel, by decide +kernel⟩
abbrev s_Held_size : Stmt := inClass (topS 37) 1
abbrev N_Held_size : List Str := ["self"]
theorem sc_Held_size : FnScope N_Held_size ["self"] (defScope s_Held_size) := ⟨rfl, rfl, rfl, by decide +kernel, rfl, by decide +kernel, by decide +kernel⟩
abbrev s_Held_after : Stmt := inClass (topS 37) 2
abbrev N_Held_after : List Str := ["self", "memory", "before", "column"]
theorem sc_Held_after : FnScope N_Held_after ["self", "memory", "before", "column"] (defScope s_Held_after) := ⟨rfl, rfl, rfl, by decide +kernel, rfl, by decide +kernel, by decide +kernel⟩
abbrev s_Times_init : Stmt := inClass (topS 38) 0
abbrev N_Times_init : List Str := ["self", "told", "voice", "note", "low", "high"]
theorem sc_Times_init : FnScope N_Times_init ["self", "told", "voice", "note", "low", "high"] (defScope s_Times_init) := ⟨rfl, rfl, rfl, by decide +kernel, rfl, by decide +kernel, by decide +kernel⟩
abbrev s_Times_size : Stmt := inClass (topS 38) 1
abbrev N_Times_size : List Str := ["self"]
theorem sc_Times_size : FnScope N_Times_size ["self"] (defScope s_Times_size) := ⟨rfl, rfl, rfl, by decide +kernel, rfl, by decide +kernel, by decide +kernel⟩
abbrev s_Times_after : Stmt := inClass (topS 38) 2
abbrev N_Times_after : List Str := ["self", "memory", "before", "column"]
theorem sc_Times_after : FnScope N_Times_after ["self", "memory", "before", "column"] (defScope s_Times_after) := ⟨rfl, rfl, rfl, by decide +kernel, rfl, by decide +kernel, by decide +kernel⟩
abbrev s_Times_closes : Stmt := inClass (topS 38) 3
abbrev N_Times_closes : List Str := ["self", "memory", "last"]
theorem sc_Times_closes : FnScope N_Times_closes ["self", "memory", "last"] (defScope s_Times_closes) := ⟨rfl, rfl, rfl, by decide +kernel, rfl, by decide +kernel, by decide +kernel⟩
abbrev s_Every_init : Stmt := inClass (topS 39) 0
abbrev N_Every_init : List Str := ["self", "told", "beat", "at", "rule"]
theorem sc_Every_init : FnScope N_Every_init ["self", "told", "beat", "at", "rule"] (defScope s_Every_init) := ⟨rfl, rfl, rfl, by decide +kernel, rfl, by decide +kernel, by decide +kernel⟩
abbrev s_Every_size : Stmt := inClass (topS 39) 1
abbrev N_Every_size : List Str := ["self"]
theorem sc_Every_size : FnScope N_Every_size ["self"] (defScope s_Every_size) := ⟨rfl, rfl, rfl, by decide +kernel, rfl, by decide +kernel, by decide +kernel⟩
abbrev s_Every_after : Stmt := inClass (topS 39) 2
abbrev N_Every_after : List Str := ["self", "memory", "before", "column", "rule"]
theorem sc_Every_after : FnScope N_Every_after ["self", "memory", "before", "column"] (defScope s_Every_after) := ⟨rfl, rfl, rfl, by decide +kernel, rfl, by decide +kernel, by decide +kernel⟩
abbrev s_Move_init : Stmt := inClass (topS 41) 0
abbrev N_Move_init : List Str := ["self", "told", "voice", "some"]
theorem sc_Move_init : FnScope N_Move_init ["self", "told", "voice", "some"] (defScope s_Move_init) := ⟨rfl, rfl, rfl, by decide +kernel, rfl, by decide +kernel, by decide +kernel⟩
abbrev s_Move_after : Stmt := inClass (topS 41) 1
abbrev N_Move_after : List Str := ["self", "memory", "before", "column"]
theorem sc_Move_after : FnScope N_Move_after ["self", "memory", "before", "column"] (defScope s_Move_after) := ⟨rfl, rfl, rfl, by decide +kernel, rfl, by decide +kernel, by decide +kernel⟩
abbrev s_Alike_init : Stmt := inClass (topS 42) 0
abbrev N_Alike_init : List Str := ["self", "told", "one", "other", "some"]
theorem sc_Alike_init : FnScope N_Alike_init ["self", "told", "one", "other", "some"] (defScope s_Alike_init) := ⟨rfl, rfl, rfl, by decide +kernel, rfl, by decide +kernel, by decide +kernel⟩
abbrev s_Alike_after : Stmt := inClass (topS 42) 1
abbrev N_Alike_after : List Str := ["self", "memory", "before", "column", "span"]
theorem sc_Alike_after : FnScope N_Alike_after ["self", "memory", "before", "column"] (defScope s_Alike_after) := ⟨rfl, rfl, rfl, by decide +kernel, rfl, by decide +kernel, by decide +kernel⟩
abbrev s_Score_init : Stmt := inClass (topS 19) 0
abbrev N_Score_init : List Str := ["self", "ranges", "rules"]
theorem sc_Score_init : FnScope N_Score_init ["self", "ranges", "rules"] (defScope s_Score_init) := ⟨rfl, rfl, rfl, by decide +kernel, rfl, by decide +kernel, by decide +kernel⟩
abbrev s_Machine_init : Stmt := inClass (topS 31) 0
abbrev N_Machine_init : List Str := ["self", "score", "states", "known", "state", "row", "column", "behind"]
theorem sc_Machine_init : FnScope N_Machine_init ["self", "score"] (defScope s_Machine_init) := ⟨rfl, rfl, rfl, by decide +kernel, rfl, by decide +kernel, by decide +kernel⟩
abbrev s_Machine_size : Stmt := inClass (topS 31) 1
abbrev N_Machine_size : List Str := ["self"]
theorem sc_Machine_size : FnScope N_Machine_size ["self"] (defScope s_Machine_size) := ⟨rfl, rfl, rfl, by decide +kernel, rfl, by decide +kernel, by decide +kernel⟩
abbrev s_Machine_to : Stmt := inClass (topS 31) 2
abbrev N_Machine_to : List Str := ["self", "state", "column"]
theorem sc_Machine_to : FnScope N_Machine_to ["self", "state", "column"] (defScope s_Machine_to) := ⟨rfl, rfl, rfl, by decide +kernel, rfl, by decide +kernel, by decide +kernel⟩
abbrev s_Machine_ends : Stmt := inClass (topS 31) 3
abbrev N_Machine_ends : List Str := ["self", "state"]
theorem sc_Machine_ends : FnScope N_Machine_ends ["self", "state"] (defScope s_Machine_ends) := ⟨rfl, rfl, rfl, by decide +kernel, rfl, by decide +kernel, by decide +kernel⟩
def d_is_number : He.DefD := ⟨("is_number", none), "is_number", "is_number", defArgs s_is_number, defBody s_is_number, defScope s_is_number, [], []⟩
def d_agrees : He.DefD := ⟨("agrees", none), "agrees", "agrees", defArgs s_agrees, defBody s_agrees, defScope s_agrees, [], []⟩
def d_weight : He.DefD := ⟨("weight", none), "weight", "weight", defArgs s_weight, defBody s_weight, defScope s_weight, [], []⟩
def d_columns : He.DefD := ⟨("columns", none), "columns", "columns", defArgs s_columns, defBody s_columns, defScope s_columns, [], []⟩
def d_agreeing : He.DefD := ⟨("agreeing", none), "agreeing", "agreeing", defArgs s_agreeing, defBody s_agreeing, defScope s_agreeing, [], []⟩
def d_ways_on : He.DefD := ⟨("ways_on", none), "ways_on", "ways_on", defArgs s_ways_on, defBody s_ways_on, defScope s_ways_on, [], []⟩
def d_counts_paper : He.DefD := ⟨("counts_paper", none), "counts_paper", "counts_paper", defArgs s_counts_paper, defBody s_counts_paper, defScope s_counts_paper, [], []⟩
def d_counted : He.DefD := ⟨("counted", none), "counted", "counted", defArgs s_counted, defBody s_counted, defScope s_counted, [], []⟩
def d_first_state : He.DefD := ⟨("first_state", none), "first_state", "first_state", defArgs s_first_state, defBody s_first_state, defScope s_first_state, [], []⟩
def d_next_state : He.DefD := ⟨("next_state", none), "next_state", "next_state", defArgs s_next_state, defBody s_next_state, defScope s_next_state, [], []⟩
def d_ends_well : He.DefD := ⟨("ends_well", none), "ends_well", "ends_well", defArgs s_ends_well, defBody s_ends_well, defScope s_ends_well, [], []⟩
def d_numbers_of : He.DefD := ⟨("numbers_of", none), "numbers_of", "numbers_of", defArgs s_numbers_of, defBody s_numbers_of, defScope s_numbers_of, [], []⟩
def d_some_of : He.DefD := ⟨("some_of", none), "some_of", "some_of", defArgs s_some_of, defBody s_some_of, defScope s_some_of, [], []⟩
def d_look_at : He.DefD := ⟨("look_at", none), "look_at", "look_at", defArgs s_look_at, defBody s_look_at, defScope s_look_at, [], []⟩
def d_column_rule : He.DefD := ⟨("column_rule", none), "column_rule", "column_rule", defArgs s_column_rule, defBody s_column_rule, defScope s_column_rule, [], []⟩
def d_alike_rule : He.DefD := ⟨("alike_rule", none), "alike_rule", "alike_rule", defArgs s_alike_rule, defBody s_alike_rule, defScope s_alike_rule, [], []⟩
def d_voice_rule : He.DefD := ⟨("voice_rule", none), "voice_rule", "voice_rule", defArgs s_voice_rule, defBody s_voice_rule, defScope s_voice_rule, [], []⟩
def d_every_rule : He.DefD := ⟨("every_rule", none), "every_rule", "every_rule", defArgs s_every_rule, defBody s_every_rule, defScope s_every_rule, [], []⟩
def d_read_rule : He.DefD := ⟨("read_rule", none), "read_rule", "read_rule", defArgs s_read_rule, defBody s_read_rule, defScope s_read_rule, [.int 0], []⟩
def d_read_range : He.DefD := ⟨("read_range", none), "read_range", "read_range", defArgs s_read_range, defBody s_read_range, defScope s_read_range, [], []⟩
def d_read : He.DefD := ⟨("read", none), "read", "read", defArgs s_read, defBody s_read, defScope s_read, [], []⟩
def d__law_at : He.DefD := ⟨("_law_at", none), "_law_at", "_law_at", defArgs s__law_at, defBody s__law_at, defScope s__law_at, [], []⟩
def d__law_draws : He.DefD := ⟨("_law_draws", none), "_law_draws", "_law_draws", defArgs s__law_draws, defBody s__law_draws, defScope s__law_draws, [], []⟩
def d__law_ranges : He.DefD := ⟨("_law_ranges", none), "_law_ranges", "_law_ranges", defArgs s__law_ranges, defBody s__law_ranges, defScope s__law_ranges, [], []⟩
def d__law_columns : He.DefD := ⟨("_law_columns", none), "_law_columns", "_law_columns", defArgs s__law_columns, defBody s__law_columns, defScope s__law_columns, [], []⟩
def d__law_some : He.DefD := ⟨("_law_some", none), "_law_some", "_law_some", defArgs s__law_some, defBody s__law_some, defScope s__law_some, [], []⟩
def d__law_pair_rule : He.DefD := ⟨("_law_pair_rule", none), "_law_pair_rule", "_law_pair_rule", defArgs s__law_pair_rule, defBody s__law_pair_rule, defScope s__law_pair_rule, [], []⟩
def d__law_voice_rule : He.DefD := ⟨("_law_voice_rule", none), "_law_voice_rule", "_law_voice_rule", defArgs s__law_voice_rule, defBody s__law_voice_rule, defScope s__law_voice_rule, [], []⟩
def d__law_rule : He.DefD := ⟨("_law_rule", none), "_law_rule", "_law_rule", defArgs s__law_rule, defBody s__law_rule, defScope s__law_rule, [], []⟩
def d__law_size : He.DefD := ⟨("_law_size", none), "_law_size", "_law_size", defArgs s__law_size, defBody s__law_size, defScope s__law_size, [], []⟩
def d__law_rules : He.DefD := ⟨("_law_rules", none), "_law_rules", "_law_rules", defArgs s__law_rules, defBody s__law_rules, defScope s__law_rules, [], []⟩
def d__law_row : He.DefD := ⟨("_law_row", none), "_law_row", "_law_row", defArgs s__law_row, defBody s__law_row, defScope s__law_row, [], []⟩
def d__law_text : He.DefD := ⟨("_law_text", none), "_law_text", "_law_text", defArgs s__law_text, defBody s__law_text, defScope s__law_text, [], []⟩
def d__law_span : He.DefD := ⟨("_law_span", none), "_law_span", "_law_span", defArgs s__law_span, defBody s__law_span, defScope s__law_span, [], []⟩
def d__law_pair_broken : He.DefD := ⟨("_law_pair_broken", none), "_law_pair_broken", "_law_pair_broken", defArgs s__law_pair_broken, defBody s__law_pair_broken, defScope s__law_pair_broken, [], []⟩
def d__law_turned_ill : He.DefD := ⟨("_law_turned_ill", none), "_law_turned_ill", "_law_turned_ill", defArgs s__law_turned_ill, defBody s__law_turned_ill, defScope s__law_turned_ill, [], []⟩
def d__law_broken : He.DefD := ⟨("_law_broken", none), "_law_broken", "_law_broken", defArgs s__law_broken, defBody s__law_broken, defScope s__law_broken, [], []⟩
def d__law_unbroken : He.DefD := ⟨("_law_unbroken", none), "_law_unbroken", "_law_unbroken", defArgs s__law_unbroken, defBody s__law_unbroken, defScope s__law_unbroken, [], []⟩
def d__law_line : He.DefD := ⟨("_law_line", none), "_law_line", "_law_line", defArgs s__law_line, defBody s__law_line, defScope s__law_line, [], []⟩
def d__law_cells : He.DefD := ⟨("_law_cells", none), "_law_cells", "_law_cells", defArgs s__law_cells, defBody s__law_cells, defScope s__law_cells, [], []⟩
def d__law_pattern : He.DefD := ⟨("_law_pattern", none), "_law_pattern", "_law_pattern", defArgs s__law_pattern, defBody s__law_pattern, defScope s__law_pattern, [], []⟩
def d__law_agrees : He.DefD := ⟨("_law_agrees", none), "_law_agrees", "_law_agrees", defArgs s__law_agrees, defBody s__law_agrees, defScope s__law_agrees, [], []⟩
def d__law_whole : He.DefD := ⟨("_law_whole", none), "_law_whole", "_law_whole", defArgs s__law_whole, defBody s__law_whole, defScope s__law_whole, [], []⟩
def d__law_drawn : He.DefD := ⟨("_law_drawn", none), "_law_drawn", "_law_drawn", defArgs s__law_drawn, defBody s__law_drawn, defScope s__law_drawn, [], []⟩
def d__law_numbers : He.DefD := ⟨("_law_numbers", none), "_law_numbers", "_law_numbers", defArgs s__law_numbers, defBody s__law_numbers, defScope s__law_numbers, [], []⟩
def d__law_sum : He.DefD := ⟨("_law_sum", none), "_law_sum", "_law_sum", defArgs s__law_sum, defBody s__law_sum, defScope s__law_sum, [], []⟩
def d__law_walked : He.DefD := ⟨("_law_walked", none), "_law_walked", "_law_walked", defArgs s__law_walked, defBody s__law_walked, defScope s__law_walked, [], []⟩
def d_law : He.DefD := ⟨("law", none), "law", "law", defArgs s_law, defBody s_law, defScope s_law, [], []⟩
def d_Rule_init : He.DefD := ⟨("Rule", some "__init__"), "__init__", "Rule.__init__", defArgs s_Rule_init, defBody s_Rule_init, defScope s_Rule_init, [], []⟩
def d_Score_init : He.DefD := ⟨("Score", some "__init__"), "__init__", "Score.__init__", defArgs s_Score_init, defBody s_Score_init, defScope s_Score_init, [], []⟩
def d_Machine_init : He.DefD := ⟨("Machine", some "__init__"), "__init__", "Machine.__init__", defArgs s_Machine_init, defBody s_Machine_init, defScope s_Machine_init, [], []⟩
def d_Machine_size : He.DefD := ⟨("Machine", some "size"), "size", "Machine.size", defArgs s_Machine_size, defBody s_Machine_size, defScope s_Machine_size, [], []⟩
def d_Machine_to : He.DefD := ⟨("Machine", some "to"), "to", "Machine.to", defArgs s_Machine_to, defBody s_Machine_to, defScope s_Machine_to, [], []⟩
def d_Machine_ends : He.DefD := ⟨("Machine", some "ends"), "ends", "Machine.ends", defArgs s_Machine_ends, defBody s_Machine_ends, defScope s_Machine_ends, [], []⟩
def d_Span_init : He.DefD := ⟨("Span", some "__init__"), "__init__", "Span.__init__", defArgs s_Span_init, defBody s_Span_init, defScope s_Span_init, [], []⟩
def d_Span_size : He.DefD := ⟨("Span", some "size"), "size", "Rule.size", defArgs s_Rule_size, defBody s_Rule_size, defScope s_Rule_size, [], []⟩
def d_Span_start : He.DefD := ⟨("Span", some "start"), "start", "Rule.start", defArgs s_Rule_start, defBody s_Rule_start, defScope s_Rule_start, [], []⟩
def d_Span_after : He.DefD := ⟨("Span", some "after"), "after", "Span.after", defArgs s_Span_after, defBody s_Span_after, defScope s_Span_after, [], []⟩
def d_Span_closes : He.DefD := ⟨("Span", some "closes"), "closes", "Rule.closes", defArgs s_Rule_closes, defBody s_Rule_closes, defScope s_Rule_closes, [], []⟩
def d_Clock_init : He.DefD := ⟨("Clock", some "__init__"), "__init__", "Clock.__init__", defArgs s_Clock_init, defBody s_Clock_init, defScope s_Clock_init, [], []⟩
def d_Clock_size : He.DefD := ⟨("Clock", some "size"), "size", "Rule.size", defArgs s_Rule_size, defBody s_Rule_size, defScope s_Rule_size, [], []⟩
def d_Clock_start : He.DefD := ⟨("Clock", some "start"), "start", "Rule.start", defArgs s_Rule_start, defBody s_Rule_start, defScope s_Rule_start, [], []⟩
def d_Clock_after : He.DefD := ⟨("Clock", some "after"), "after", "Clock.after", defArgs s_Clock_after, defBody s_Clock_after, defScope s_Clock_after, [], []⟩
def d_Clock_closes : He.DefD := ⟨("Clock", some "closes"), "closes", "Rule.closes", defArgs s_Rule_closes, defBody s_Rule_closes, defScope s_Rule_closes, [], []⟩
def d_Begin_init : He.DefD := ⟨("Begin", some "__init__"), "__init__", "Begin.__init__", defArgs s_Begin_init, defBody s_Begin_init, defScope s_Begin_init, [], []⟩
def d_Begin_size : He.DefD := ⟨("Begin", some "size"), "size", "Rule.size", defArgs s_Rule_size, defBody s_Rule_size, defScope s_Rule_size, [], []⟩
def d_Begin_start : He.DefD := ⟨("Begin", some "start"), "start", "Rule.start", defArgs s_Rule_start, defBody s_Rule_start, defScope s_Rule_start, [], []⟩
def d_Begin_after : He.DefD := ⟨("Begin", some "after"), "after", "Begin.after", defArgs s_Begin_after, defBody s_Begin_after, defScope s_Begin_after, [], []⟩
def d_Begin_closes : He.DefD := ⟨("Begin", some "closes"), "closes", "Rule.closes", defArgs s_Rule_closes, defBody s_Rule_closes, defScope s_Rule_closes, [], []⟩
def d_Close_init : He.DefD := ⟨("Close", some "__init__"), "__init__", "Close.__init__", defArgs s_Close_init, defBody s_Close_init, defScope s_Close_init, [], []⟩
def d_Close_size : He.DefD := ⟨("Close", some "size"), "size", "Rule.size", defArgs s_Rule_size, defBody s_Rule_size, defScope s_Rule_size, [], []⟩
def d_Close_start : He.DefD := ⟨("Close", some "start"), "start", "Rule.start", defArgs s_Rule_start, defBody s_Rule_start, defScope s_Rule_start, [], []⟩
def d_Close_after : He.DefD := ⟨("Close", some "after"), "after", "Rule.after", defArgs s_Rule_after, defBody s_Rule_after, defScope s_Rule_after, [], []⟩
def d_Close_closes : He.DefD := ⟨("Close", some "closes"), "closes", "Close.closes", defArgs s_Close_closes, defBody s_Close_closes, defScope s_Close_closes, [], []⟩
def d_Back_init : He.DefD := ⟨("Back", some "__init__"), "__init__", "Back.__init__", defArgs s_Back_init, defBody s_Back_init, defScope s_Back_init, [], []⟩
def d_Back_size : He.DefD := ⟨("Back", some "size"), "size", "Back.size", defArgs s_Back_size, defBody s_Back_size, defScope s_Back_size, [], []⟩
def d_Back_start : He.DefD := ⟨("Back", some "start"), "start", "Back.start", defArgs s_Back_start, defBody s_Back_start, defScope s_Back_start, [], []⟩
def d_Back_after : He.DefD := ⟨("Back", some "after"), "after", "Back.after", defArgs s_Back_after, defBody s_Back_after, defScope s_Back_after, [], []⟩
def d_Back_closes : He.DefD := ⟨("Back", some "closes"), "closes", "Back.closes", defArgs s_Back_closes, defBody s_Back_closes, defScope s_Back_closes, [], []⟩
def d_Held_init : He.DefD := ⟨("Held", some "__init__"), "__init__", "Held.__init__", defArgs s_Held_init, defBody s_Held_init, defScope s_Held_init, [], []⟩
def d_Held_size : He.DefD := ⟨("Held", some "size"), "size", "Held.size", defArgs s_Held_size, defBody s_Held_size, defScope s_Held_size, [], []⟩
def d_Held_start : He.DefD := ⟨("Held", some "start"), "start", "Rule.start", defArgs s_Rule_start, defBody s_Rule_start, defScope s_Rule_start, [], []⟩
def d_Held_after : He.DefD := ⟨("Held", some "after"), "after", "Held.after", defArgs s_Held_after, defBody s_Held_after, defScope s_Held_after, [], []⟩
def d_Held_closes : He.DefD := ⟨("Held", some "closes"), "closes", "Rule.closes", defArgs s_Rule_closes, defBody s_Rule_closes, defScope s_Rule_closes, [], []⟩
def d_Times_init : He.DefD := ⟨("Times", some "__init__"), "__init__", "Times.__init__", defArgs s_Times_init, defBody s_Times_init, defScope s_Times_init, [], []⟩
def d_Times_size : He.DefD := ⟨("Times", some "size"), "size", "Times.size", defArgs s_Times_size, defBody s_Times_size, defScope s_Times_size, [], []⟩
def d_Times_start : He.DefD := ⟨("Times", some "start"), "start", "Rule.start", defArgs s_Rule_start, defBody s_Rule_start, defScope s_Rule_start, [], []⟩
def d_Times_after : He.DefD := ⟨("Times", some "after"), "after", "Times.after", defArgs s_Times_after, defBody s_Times_after, defScope s_Times_after, [], []⟩
def d_Times_closes : He.DefD := ⟨("Times", some "closes"), "closes", "Times.closes", defArgs s_Times_closes, defBody s_Times_closes, defScope s_Times_closes, [], []⟩
def d_Every_init : He.DefD := ⟨("Every", some "__init__"), "__init__", "Every.__init__", defArgs s_Every_init, defBody s_Every_init, defScope s_Every_init, [], []⟩
def d_Every_size : He.DefD := ⟨("Every", some "size"), "size", "Every.size", defArgs s_Every_size, defBody s_Every_size, defScope s_Every_size, [], []⟩
def d_Every_start : He.DefD := ⟨("Every", some "start"), "start", "Rule.start", defArgs s_Rule_start, defBody s_Rule_start, defScope s_Rule_start, [], []⟩
def d_Every_after : He.DefD := ⟨("Every", some "after"), "after", "Every.after", defArgs s_Every_after, defBody s_Every_after, defScope s_Every_after, [], []⟩
def d_Every_closes : He.DefD := ⟨("Every", some "closes"), "closes", "Rule.closes", defArgs s_Rule_closes, defBody s_Rule_closes, defScope s_Rule_closes, [], []⟩
def d_Move_init : He.DefD := ⟨("Move", some "__init__"), "__init__", "Move.__init__", defArgs s_Move_init, defBody s_Move_init, defScope s_Move_init, [], []⟩
def d_Move_size : He.DefD := ⟨("Move", some "size"), "size", "Rule.size", defArgs s_Rule_size, defBody s_Rule_size, defScope s_Rule_size, [], []⟩
def d_Move_start : He.DefD := ⟨("Move", some "start"), "start", "Rule.start", defArgs s_Rule_start, defBody s_Rule_start, defScope s_Rule_start, [], []⟩
def d_Move_after : He.DefD := ⟨("Move", some "after"), "after", "Move.after", defArgs s_Move_after, defBody s_Move_after, defScope s_Move_after, [], []⟩
def d_Move_closes : He.DefD := ⟨("Move", some "closes"), "closes", "Rule.closes", defArgs s_Rule_closes, defBody s_Rule_closes, defScope s_Rule_closes, [], []⟩
def d_Alike_init : He.DefD := ⟨("Alike", some "__init__"), "__init__", "Alike.__init__", defArgs s_Alike_init, defBody s_Alike_init, defScope s_Alike_init, [], []⟩
def d_Alike_size : He.DefD := ⟨("Alike", some "size"), "size", "Rule.size", defArgs s_Rule_size, defBody s_Rule_size, defScope s_Rule_size, [], []⟩
def d_Alike_start : He.DefD := ⟨("Alike", some "start"), "start", "Rule.start", defArgs s_Rule_start, defBody s_Rule_start, defScope s_Rule_start, [], []⟩
def d_Alike_after : He.DefD := ⟨("Alike", some "after"), "after", "Alike.after", defArgs s_Alike_after, defBody s_Alike_after, defScope s_Alike_after, [], []⟩
def d_Alike_closes : He.DefD := ⟨("Alike", some "closes"), "closes", "Rule.closes", defArgs s_Rule_closes, defBody s_Rule_closes, defScope s_Rule_closes, [], []⟩
def fn : List He.DefD := [d_is_number, d_agrees, d_weight, d_columns, d_agreeing, d_ways_on, d_counts_paper, d_counted, d_first_state, d_next_state, d_ends_well, d_numbers_of, d_some_of, d_look_at, d_column_rule, d_alike_rule, d_voice_rule, d_every_rule, d_read_rule, d_read_range, d_read, d__law_at, d__law_draws, d__law_ranges, d__law_columns, d__law_some, d__law_pair_rule, d__law_voice_rule, d__law_rule, d__law_size, d__law_rules, d__law_row, d__law_text, d__law_span, d__law_pair_broken, d__law_turned_ill, d__law_broken, d__law_unbroken, d__law_line, d__law_cells, d__law_pattern, d__law_agrees, d__law_whole, d__law_drawn, d__law_numbers, d__law_sum, d__law_walked, d_law, d_Rule_init, d_Score_init, d_Machine_init, d_Machine_size, d_Machine_to, d_Machine_ends, d_Span_init, d_Span_size, d_Span_start, d_Span_after, d_Span_closes, d_Clock_init, d_Clock_size, d_Clock_start, d_Clock_after, d_Clock_closes, d_Begin_init, d_Begin_size, d_Begin_start, d_Begin_after, d_Begin_closes, d_Close_init, d_Close_size, d_Close_start, d_Close_after, d_Close_closes, d_Back_init, d_Back_size, d_Back_start, d_Back_after, d_Back_closes, d_Held_init, d_Held_size, d_Held_start, d_Held_after, d_Held_closes, d_Times_init, d_Times_size, d_Times_start, d_Times_after, d_Times_closes, d_Every_init, d_Every_size, d_Every_start, d_Every_after, d_Every_closes, d_Move_init, d_Move_size, d_Move_start, d_Move_after, d_Move_closes, d_Alike_init, d_Alike_size, d_Alike_start, d_Alike_after, d_Alike_closes]
def fa : List He.Fa := [.free "len", .free "range", .free "int", .free "str", .free "list", .free "tuple", .free "set", .free "zip", .free "reversed", .free "enumerate", .free "min", .free "max", .free "abs", .free "all", .free "isinstance", .free "bool", .int "CALM" 0, .int "UP" 1, .int "DOWN" 2, .int "VOICES" 4, .int "RULES" 12, .int "MOST_words" 40, .int "MOST_scores" 400, .int "MOST_rulereader" 12, .str "FIGURES" "0123456789", .glo "is_number", .glo "agrees", .glo "weight", .glo "columns", .glo "agreeing", .glo "ways_on", .glo "counts_paper", .glo "counted", .glo "first_state", .glo "next_state", .glo "ends_well", .glo "numbers_of", .glo "some_of", .glo "look_at", .glo "column_rule", .glo "alike_rule", .glo "voice_rule", .glo "every_rule", .glo "read_rule", .glo "read_range", .glo "read", .glo "_law_at", .glo "_law_draws", .glo "_law_ranges", .glo "_law_columns", .glo "_law_some", .glo "_law_pair_rule", .glo "_law_voice_rule", .glo "_law_rule", .glo "_law_size", .glo "_law_rules", .glo "_law_row", .glo "_law_text", .glo "_law_span", .glo "_law_pair_broken", .glo "_law_turned_ill", .glo "_law_broken", .glo "_law_unbroken", .glo "_law_line", .glo "_law_cells", .glo "_law_pattern", .glo "_law_agrees", .glo "_law_whole", .glo "_law_drawn", .glo "_law_numbers", .glo "_law_sum", .glo "_law_walked", .glo "law", .glo "Rule", .glo "Span", .cls "Span", .mkr "Span", .noat "Span" "told", .noat "Span" "one", .noat "Span" "other", .noat "Span" "some", .meth "Span" "size", .meth "Span" "start", .meth "Span" "after", .meth "Span" "closes", .glo "Clock", .cls "Clock", .mkr "Clock", .noat "Clock" "told", .noat "Clock" "one", .noat "Clock" "other", .noat "Clock" "beat", .noat "Clock" "some", .meth "Clock" "size", .meth "Clock" "start", .meth "Clock" "after", .meth "Clock" "closes", .glo "Begin", .cls "Begin", .mkr "Begin", .noat "Begin" "told", .noat "Begin" "voice", .noat "Begin" "some", .meth "Begin" "size", .meth "Begin" "start", .meth "Begin" "after", .meth "Begin" "closes", .glo "Close", .cls "Close", .mkr "Close", .noat "Close" "told", .noat "Close" "voice", .noat "Close" "some", .meth "Close" "size", .meth "Close" "start", .meth "Close" "after", .meth "Close" "closes", .glo "Back", .cls "Back", .mkr "Back", .noat "Back" "told", .noat "Back" "voice", .noat "Back" "far", .meth "Back" "size", .meth "Back" "start", .meth "Back" "after", .meth "Back" "closes", .glo "Held", .cls "Held", .mkr "Held", .noat "Held" "told", .noat "Held" "voice", .noat "Held" "most", .meth "Held" "size", .meth "Held" "start", .meth "Held" "after", .meth "Held" "closes", .glo "Times", .cls "Times", .mkr "Times", .noat "Times" "told", .noat "Times" "voice", .noat "Times" "note", .noat "Times" "low", .noat "Times" "high", .meth "Times" "size", .meth "Times" "start", .meth "Times" "after", .meth "Times" "closes", .glo "Every", .cls "Every", .mkr "Every", .noat "Every" "told", .noat "Every" "beat", .noat "Every" "at", .noat "Every" "rule", .meth "Every" "size", .meth "Every" "start", .meth "Every" "after", .meth "Every" "closes", .glo "Move", .cls "Move", .mkr "Move", .noat "Move" "told", .noat "Move" "voice", .noat "Move" "some", .meth "Move" "size", .meth "Move" "start", .meth "Move" "after", .meth "Move" "closes", .glo "Alike", .cls "Alike", .mkr "Alike", .noat "Alike" "told", .noat "Alike" "one", .noat "Alike" "other", .noat "Alike" "some", .meth "Alike" "size", .meth "Alike" "start", .meth "Alike" "after", .meth "Alike" "closes", .glo "Score", .cls "Score", .mkr "Score", .noat "Score" "ranges", .noat "Score" "rules", .glo "Machine", .cls "Machine", .mkr "Machine", .noat "Machine" "score", .noat "Machine" "ways", .noat "Machine" "good", .meth "Machine" "size", .meth "Machine" "to", .meth "Machine" "ends"]
/-- the class Rule's own __init__, read off the class -/
def exB (K : PySem.W.Frag) : Bool := PySem.W.readsIn K (He.ga K "Rule") (.type "type") && (He.eqO (PySem.W.specialIn K (.ref (He.ga K "Rule")) "__getattribute__") (some (some (.builtin "type.__getattribute__"))) &&
  ((match PySem.W.findCls K (.ref (He.ga K "Rule")) (.type "type") "__init__" with
    | some (.val (.ref f)) => decide (f = He.ma K (He.ga K "Rule") "__init__")
    | _ => false) && PySem.W.fnIn K (He.ma K (He.ga K "Rule") "__init__")))
/-! ### the hook -/
def asF (g : Addr → Option Obj) : List Addr := He.asD g 4 ++ [PySem.cStatics]
abbrev AlF : Type := He.AlD × Bool
def obsF (g : Addr → Option Obj) : AlF := (He.obsD fa fn (He.frG g (asF g)), exB (He.frG g (asF g)))
def SaysF (K : PySem.W.Frag) : Prop := (He.obsD fa fn K, exB K) = ((He.valD fn, true) : AlF)
def hk : PySem.W.Hook where
  α := AlF
  obs := fun s => obsF s.heap.get?
  val := fun _ => (He.valD fn, true)
  says := fun _ h => ∃ K : PySem.W.Frag, K.In h ∧ SaysF K
  of := fun _ _ e => ⟨_, He.frG_in, e⟩
  keeps := fun _ _ _ ⟨K, hK, c⟩ k => ⟨K, PySem.W.Frag.In.keeps hK k, c⟩
theorem obsF_eq {g : Addr → Option Obj} {s : Shared} (h : ∀ a, g a = s.heap.get? a) : obsF g = hk.obs s := by
  have e : g = s.heap.get? := funext h
  rw [e] <;> rfl
def ob (s : PySem.W.SharedT) : AlF := obsF (HandSHeadRun.getT s)
theorem ob_eq (s : PySem.W.SharedT) : ob s = hk.obs s.abs := obsF_eq (HandSHeadRun.getT_eq s)
/-! ### what stands behind the top -/
structure Top (K : PySem.W.Frag) (mg : Str → Option Value) (base : Heap) : Prop where
  s : SaysF K
  X : K.In base
  G : base.Ns mainGlobals mg
/-- a def of the module keeps a promise -/
def DOk (P : Program) (w : World) (K : PySem.W.Frag) (mg : Str → Option Value) (base : Heap) (x : Str) (k : Nat) (ps : List Str) (sp : Sp) : Prop :=
  ∃ fd, FnOk P w K mg base CX0 k (He.ga K x) fd ps sp ∧ Binds K fd ps [] ∧ PySem.W.keepIn K (.ref (He.ga K x)) = true ∧ mg x = some (.ref (He.ga K x))
/-- a method of the class at C -/
def MOk (P : Program) (w : World) (K : PySem.W.Frag) (mg : Str → Option Value) (base : Heap) (C : Addr) (m : Str) (k : Nat) (ps : List Str) (sp : Sp) : Prop :=
  ∃ f fd, FnOk P w K mg base CX0 k f fd ps sp ∧ Binds K fd ps [] ∧ Cls K C ∧ Meth K C m f
/-- a class C is called: its __init__ -/
def KOk (P : Program) (w : World) (K : PySem.W.Frag) (mg : Str → Option Value) (base : Heap) (x : Str) (k : Nat) (ps : List Str) (sp : Sp) : Prop :=
  ∃ f fd, FnOk P w K mg base CX0 k f fd ps sp ∧ Binds K fd ps [] ∧ Mk K (He.ga K x) f ∧ mg x = some (.ref (He.ga K x))
section
variable {K : PySem.W.Frag} {mg : Str → Option Value} {base : Heap}
theorem Top.c (T : Top K mg base) : He.SaysD fa fn K := congrArg (fun z : AlF => z.1) T.s
theorem Top.ex (T : Top K mg base) : exB K = true := congrArg (fun z : AlF => z.2) T.s
theorem Top.b_len (T : Top K mg base) : mg "len" = none := He.free_ok T.X T.G (T.c.fact 0 rfl)
theorem Top.b_range (T : Top K mg base) : mg "range" = none := He.free_ok T.X T.G (T.c.fact 1 rfl)
theorem Top.b_int (T : Top K mg base) : mg "int" = none := He.free_ok T.X T.G (T.c.fact 2 rfl)
theorem Top.b_str (T : Top K mg base) : mg "str" = none := He.free_ok T.X T.G (T.c.fact 3 rfl)
theorem Top.b_list (T : Top K mg base) : mg "list" = none := He.free_ok T.X T.G (T.c.fact 4 rfl)
theorem Top.b_tuple (T : Top K mg base) : mg "tuple" = none := He.free_ok T.X T.G (T.c.fact 5 rfl)
theorem Top.b_set (T : Top K mg base) : mg "set" = none := He.free_ok T.X T.G (T.c.fact 6 rfl)
theorem Top.b_zip (T : Top K mg base) : mg "zip" = none := He.free_ok T.X T.G (T.c.fact 7 rfl)
theorem Top.b_reversed (T : Top K mg base) : mg "reversed" = none := He.free_ok T.X T.G (T.c.fact 8 rfl)
theorem Top.b_enumerate (T : Top K mg base) : mg "enumerate" = none := He.free_ok T.X T.G (T.c.fact 9 rfl)
theorem Top.b_min (T : Top K mg base) : mg "min" = none := He.free_ok T.X T.G (T.c.fact 10 rfl)
theorem Top.b_max (T : Top K mg base) : mg "max" = none := He.free_ok T.X T.G (T.c.fact 11 rfl)
theorem Top.b_abs (T : Top K mg base) : mg "abs" = none := He.free_ok T.X T.G (T.c.fact 12 rfl)
theorem Top.b_all (T : Top K mg base) : mg "all" = none := He.free_ok T.X T.G (T.c.fact 13 rfl)
theorem Top.b_isinstance (T : Top K mg base) : mg "isinstance" = none := He.free_ok T.X T.G (T.c.fact 14 rfl)
theorem Top.b_bool (T : Top K mg base) : mg "bool" = none := He.free_ok T.X T.G (T.c.fact 15 rfl)
theorem Top.i_CALM (T : Top K mg base) : ∃ t, mg "CALM" = some (.int 0 t) := He.int_ok T.X T.G (T.c.fact 16 rfl)
theorem Top.i_UP (T : Top K mg base) : ∃ t, mg "UP" = some (.int 1 t) := He.int_ok T.X T.G (T.c.fact 17 rfl)
theorem Top.i_DOWN (T : Top K mg base) : ∃ t, mg "DOWN" = some (.int 2 t) := He.int_ok T.X T.G (T.c.fact 18 rfl)
theorem Top.i_VOICES (T : Top K mg base) : ∃ t, mg "VOICES" = some (.int 4 t) := He.int_ok T.X T.G (T.c.fact 19 rfl)
theorem Top.i_RULES (T : Top K mg base) : ∃ t, mg "RULES" = some (.int 12 t) := He.int_ok T.X T.G (T.c.fact 20 rfl)
theorem Top.i_MOST_words (T : Top K mg base) : ∃ t, mg "MOST_words" = some (.int 40 t) := He.int_ok T.X T.G (T.c.fact 21 rfl)
theorem Top.i_MOST_scores (T : Top K mg base) : ∃ t, mg "MOST_scores" = some (.int 400 t) := He.int_ok T.X T.G (T.c.fact 22 rfl)
theorem Top.i_MOST_rulereader (T : Top K mg base) : ∃ t, mg "MOST_rulereader" = some (.int 12 t) := He.int_ok T.X T.G (T.c.fact 23 rfl)
theorem Top.t_FIGURES (T : Top K mg base) : ∃ t, mg "FIGURES" = some (.str "0123456789" t) := He.str_ok T.X T.G (T.c.fact 24 rfl)
theorem Top.g_is_number (T : Top K mg base) : mg "is_number" = some (.ref (He.ga K "is_number")) := He.glo_ok T.X T.G (T.c.fact 25 rfl)
theorem Top.g_agrees (T : Top K mg base) : mg "agrees" = some (.ref (He.ga K "agrees")) := He.glo_ok T.X T.G (T.c.fact 26 rfl)
theorem Top.g_weight (T : Top K mg base) : mg "weight" = some (.ref (He.ga K "weight")) := He.glo_ok T.X T.G (T.c.fact 27 rfl)
theorem Top.g_columns (T : Top K mg base) : mg "columns" = some (.ref (He.ga K "columns")) := He.glo_ok T.X T.G (T.c.fact 28 rfl)
theorem Top.g_agreeing (T : Top K mg base) : mg "agreeing" = some (.ref (He.ga K "agreeing")) := He.glo_ok T.X T.G (T.c.fact 29 rfl)
theorem Top.g_ways_on (T : Top K mg base) : mg "ways_on" = some (.ref (He.ga K "ways_on")) := He.glo_ok T.X T.G (T.c.fact 30 rfl)
theorem Top.g_counts_paper (T : Top K mg base) : mg "counts_paper" = some (.ref (He.ga K "counts_paper")) := He.glo_ok T.X T.G (T.c.fact 31 rfl)
theorem Top.g_counted (T : Top K mg base) : mg "counted" = some (.ref (He.ga K "counted")) := He.glo_ok T.X T.G (T.c.fact 32 rfl)
theorem Top.g_first_state (T : Top K mg base) : mg "first_state" = some (.ref (He.ga K "first_state")) := He.glo_ok T.X T.G (T.c.fact 33 rfl)
theorem Top.g_next_state (T : Top K mg base) : mg "next_state" = some (.ref (He.ga K "next_state")) := He.glo_ok T.X T.G (T.c.fact 34 rfl)
theorem Top.g_ends_well (T : Top K mg base) : mg "ends_well" = some (.ref (He.ga K "ends_well")) := He.glo_ok T.X T.G (T.c.fact 35 rfl)
theorem Top.g_numbers_of (T : Top K mg base) : mg "numbers_of" = some (.ref (He.ga K "numbers_of")) := He.glo_ok T.X T.G (T.c.fact 36 rfl)
theorem Top.g_some_of (T : Top K mg base) : mg "some_of" = some (.ref (He.ga K "some_of")) := He.glo_ok T.X T.G (T.c.fact 37 rfl)
theorem Top.g_look_at (T : Top K mg base) : mg "look_at" = some (.ref (He.ga K "look_at")) := He.glo_ok T.X T.G (T.c.fact 38 rfl)
theorem Top.g_column_rule (T : Top K mg base) : mg "column_rule" = some (.ref (He.ga K "column_rule")) := He.glo_ok T.X T.G (T.c.fact 39 rfl)
theorem Top.g_alike_rule (T : Top K mg base) : mg "alike_rule" = some (.ref (He.ga K "alike_rule")) := He.glo_ok T.X T.G (T.c.fact 40 rfl)
theorem Top.g_voice_rule (T : Top K mg base) : mg "voice_rule" = some (.ref (He.ga K "voice_rule")) := He.glo_ok T.X T.G (T.c.fact 41 rfl)
theorem Top.g_every_rule (T : Top K mg base) : mg "every_rule" = some (.ref (He.ga K "every_rule")) := He.glo_ok T.X T.G (T.c.fact 42 rfl)
theorem Top.g_read_rule (T : Top K mg base) : mg "read_rule" = some (.ref (He.ga K "read_rule")) := He.glo_ok T.X T.G (T.c.fact 43 rfl)
theorem Top.g_read_range (T : Top K mg base) : mg "read_range" = some (.ref (He.ga K "read_range")) := He.glo_ok T.X T.G (T.c.fact 44 rfl)
theorem Top.g_read (T : Top K mg base) : mg "read" = some (.ref (He.ga K "read")) := He.glo_ok T.X T.G (T.c.fact 45 rfl)
theorem Top.g__law_at (T : Top K mg base) : mg "_law_at" = some (.ref (He.ga K "_law_at")) := He.glo_ok T.X T.G (T.c.fact 46 rfl)
theorem Top.g__law_draws (T : Top K mg base) : mg "_law_draws" = some (.ref (He.ga K "_law_draws")) := He.glo_ok T.X T.G (T.c.fact 47 rfl)
theorem Top.g__law_ranges (T : Top K mg base) : mg "_law_ranges" = some (.ref (He.ga K "_law_ranges")) := He.glo_ok T.X T.G (T.c.fact 48 rfl)
theorem Top.g__law_columns (T : Top K mg base) : mg "_law_columns" = some (.ref (He.ga K "_law_columns")) := He.glo_ok T.X T.G (T.c.fact 49 rfl)
theorem Top.g__law_some (T : Top K mg base) : mg "_law_some" = some (.ref (He.ga K "_law_some")) := He.glo_ok T.X T.G (T.c.fact 50 rfl)
theorem Top.g__law_pair_rule (T : Top K mg base) : mg "_law_pair_rule" = some (.ref (He.ga K "_law_pair_rule")) := He.glo_ok T.X T.G (T.c.fact 51 rfl)
theorem Top.g__law_voice_rule (T : Top K mg base) : mg "_law_voice_rule" = some (.ref (He.ga K "_law_voice_rule")) := He.glo_ok T.X T.G (T.c.fact 52 rfl)
theorem Top.g__law_rule (T : Top K mg base) : mg "_law_rule" = some (.ref (He.ga K "_law_rule")) := He.glo_ok T.X T.G (T.c.fact 53 rfl)
theorem Top.g__law_size (T : Top K mg base) : mg "_law_size" = some (.ref (He.ga K "_law_size")) := He.glo_ok T.X T.G (T.c.fact 54 rfl)
theorem Top.g__law_rules (T : Top K mg base) : mg "_law_rules" = some (.ref (He.ga K "_law_rules")) := He.glo_ok T.X T.G (T.c.fact 55 rfl)
theorem Top.g__law_row (T : Top K mg base) : mg "_law_row" = some (.ref (He.ga K "_law_row")) := He.glo_ok T.X T.G (T.c.fact 56 rfl)
theorem Top.g__law_text (T : Top K mg base) : mg "_law_text" = some (.ref (He.ga K "_law_text")) := He.glo_ok T.X T.G (T.c.fact 57 rfl)
theorem Top.g__law_span (T : Top K mg base) : mg "_law_span" = some (.ref (He.ga K "_law_span")) := He.glo_ok T.X T.G (T.c.fact 58 rfl)
theorem Top.g__law_pair_broken (T : Top K mg base) : mg "_law_pair_broken" = some (.ref (He.ga K "_law_pair_broken")) := He.glo_ok T.X T.G (T.c.fact 59 rfl)
theorem Top.g__law_turned_ill (T : Top K mg base) : mg "_law_turned_ill" = some (.ref (He.ga K "_law_turned_ill")) := He.glo_ok T.X T.G (T.c.fact 60 rfl)
theorem Top.g__law_broken (T : Top K mg base) : mg "_law_broken" = some (.ref (He.ga K "_law_broken")) := He.glo_ok T.X T.G (T.c.fact 61 rfl)
theorem Top.g__law_unbroken (T : Top K mg base) : mg "_law_unbroken" = some (.ref (He.ga K "_law_unbroken")) := He.glo_ok T.X T.G (T.c.fact 62 rfl)
theorem Top.g__law_line (T : Top K mg base) : mg "_law_line" = some (.ref (He.ga K "_law_line")) := He.glo_ok T.X T.G (T.c.fact 63 rfl)
theorem Top.g__law_cells (T : Top K mg base) : mg "_law_cells" = some (.ref (He.ga K "_law_cells")) := He.glo_ok T.X T.G (T.c.fact 64 rfl)
theorem Top.g__law_pattern (T : Top K mg base) : mg "_law_pattern" = some (.ref (He.ga K "_law_pattern")) := He.glo_ok T.X T.G (T.c.fact 65 rfl)
theorem Top.g__law_agrees (T : Top K mg base) : mg "_law_agrees" = some (.ref (He.ga K "_law_agrees")) := He.glo_ok T.X T.G (T.c.fact 66 rfl)
theorem Top.g__law_whole (T : Top K mg base) : mg "_law_whole" = some (.ref (He.ga K "_law_whole")) := He.glo_ok T.X T.G (T.c.fact 67 rfl)
theorem Top.g__law_drawn (T : Top K mg base) : mg "_law_drawn" = some (.ref (He.ga K "_law_drawn")) := He.glo_ok T.X T.G (T.c.fact 68 rfl)
theorem Top.g__law_numbers (T : Top K mg base) : mg "_law_numbers" = some (.ref (He.ga K "_law_numbers")) := He.glo_ok T.X T.G (T.c.fact 69 rfl)
theorem Top.g__law_sum (T : Top K mg base) : mg "_law_sum" = some (.ref (He.ga K "_law_sum")) := He.glo_ok T.X T.G (T.c.fact 70 rfl)
theorem Top.g__law_walked (T : Top K mg base) : mg "_law_walked" = some (.ref (He.ga K "_law_walked")) := He.glo_ok T.X T.G (T.c.fact 71 rfl)
theorem Top.g_law (T : Top K mg base) : mg "law" = some (.ref (He.ga K "law")) := He.glo_ok T.X T.G (T.c.fact 72 rfl)
theorem Top.g_Rule (T : Top K mg base) : mg "Rule" = some (.ref (He.ga K "Rule")) := He.glo_ok T.X T.G (T.c.fact 73 rfl)
theorem Top.g_Span (T : Top K mg base) : mg "Span" = some (.ref (He.ga K "Span")) := He.glo_ok T.X T.G (T.c.fact 74 rfl)
theorem Top.c_Span (T : Top K mg base) : Cls K (He.ga K "Span") := He.cls_ok (T.c.fact 75 rfl)
theorem Top.k_Span (T : Top K mg base) : Mk K (He.ga K "Span") (He.ma K (He.ga K "Span") "__init__") := He.mkr_ok (T.c.fact 76 rfl)
theorem Top.n_Span_told (T : Top K mg base) : NoAttr K (He.ga K "Span") "told" := He.noat_ok (T.c.fact 77 rfl)
theorem Top.n_Span_one (T : Top K mg base) : NoAttr K (He.ga K "Span") "one" := He.noat_ok (T.c.fact 78 rfl)
theorem Top.n_Span_other (T : Top K mg base) : NoAttr K (He.ga K "Span") "other" := He.noat_ok (T.c.fact 79 rfl)
theorem Top.n_Span_some (T : Top K mg base) : NoAttr K (He.ga K "Span") "some" := He.noat_ok (T.c.fact 80 rfl)
theorem Top.m_Span_size (T : Top K mg base) : Meth K (He.ga K "Span") "size" (He.ma K (He.ga K "Span") "size") := He.meth_ok (T.c.fact 81 rfl)
theorem Top.m_Span_start (T : Top K mg base) : Meth K (He.ga K "Span") "start" (He.ma K (He.ga K "Span") "start") := He.meth_ok (T.c.fact 82 rfl)
theorem Top.m_Span_after (T : Top K mg base) : Meth K (He.ga K "Span") "after" (He.ma K (He.ga K "Span") "after") := He.meth_ok (T.c.fact 83 rfl)
theorem Top.m_Span_closes (T : Top K mg base) : Meth K (He.ga K "Span") "closes" (He.ma K (He.ga K "Span") "closes") := He.meth_ok (T.c.fact 84 rfl)
theorem Top.g_Clock (T : Top K mg base) : mg "Clock" = some (.ref (He.ga K "Clock")) := He.glo_ok T.X T.G (T.c.fact 85 rfl)
theorem Top.c_Clock (T : Top K mg base) : Cls K (He.ga K "Clock") := He.cls_ok (T.c.fact 86 rfl)
theorem Top.k_Clock (T : Top K mg base) : Mk K (He.ga K "Clock") (He.ma K (He.ga K "Clock") "__init__") := He.mkr_ok (T.c.fact 87 rfl)
theorem Top.n_Clock_told (T : Top K mg base) : NoAttr K (He.ga K "Clock") "told" := He.noat_ok (T.c.fact 88 rfl)
theorem Top.n_Clock_one (T : Top K mg base) : NoAttr K (He.ga K "Clock") "one" := He.noat_ok (T.c.fact 89 rfl)
theorem Top.n_Clock_other (T : Top K mg base) : NoAttr K (He.ga K "Clock") "other" := He.noat_ok (T.c.fact 90 rfl)
theorem Top.n_Clock_beat (T : Top K mg base) : NoAttr K (He.ga K "Clock") "beat" := He.noat_ok (T.c.fact 91 rfl)
theorem Top.n_Clock_some (T : Top K mg base) : NoAttr K (He.ga K "Clock") "some" := He.noat_ok (T.c.fact 92 rfl)
theorem Top.m_Clock_size (T : Top K mg base) : Meth K (He.ga K "Clock") "size" (He.ma K (He.ga K "Clock") "size") := He.meth_ok (T.c.fact 93 rfl)
theorem Top.m_Clock_start (T : Top K mg base) : Meth K (He.ga K "Clock") "start" (He.ma K (He.ga K "Clock") "start") := He.meth_ok (T.c.fact 94 rfl)
theorem Top.m_Clock_after (T : Top K mg base) : Meth K (He.ga K "Clock") "after" (He.ma K (He.ga K "Clock") "after") := He.meth_ok (T.c.fact 95 rfl)
theorem Top.m_Clock_closes (T : Top K mg base) : Meth K (He.ga K "Clock") "closes" (He.ma K (He.ga K "Clock") "closes") := He.meth_ok (T.c.fact 96 rfl)
theorem Top.g_Begin (T : Top K mg base) : mg "Begin" = some (.ref (He.ga K "Begin")) := He.glo_ok T.X T.G (T.c.fact 97 rfl)
theorem Top.c_Begin (T : Top K mg base) : Cls K (He.ga K "Begin") := He.cls_ok (T.c.fact 98 rfl)
theorem Top.k_Begin (T : Top K mg base) : Mk K (He.ga K "Begin") (He.ma K (He.ga K "Begin") "__init__") := He.mkr_ok (T.c.fact 99 rfl)
theorem Top.n_Begin_told (T : Top K mg base) : NoAttr K (He.ga K "Begin") "told" := He.noat_ok (T.c.fact 100 rfl)
theorem Top.n_Begin_voice (T : Top K mg base) : NoAttr K (He.ga K "Begin") "voice" := He.noat_ok (T.c.fact 101 rfl)
theorem Top.n_Begin_some (T : Top K mg base) : NoAttr K (He.ga K "Begin") "some" := He.noat_ok (T.c.fact 102 rfl)
theorem Top.m_Begin_size (T : Top K mg base) : Meth K (He.ga K "Begin") "size" (He.ma K (He.ga K "Begin") "size") := He.meth_ok (T.c.fact 103 rfl)
theorem Top.m_Begin_start (T : Top K mg base) : Meth K (He.ga K "Begin") "start" (He.ma K (He.ga K "Begin") "start") := He.meth_ok (T.c.fact 104 rfl)
theorem Top.m_Begin_after (T : Top K mg base) : Meth K (He.ga K "Begin") "after" (He.ma K (He.ga K "Begin") "after") := He.meth_ok (T.c.fact 105 rfl)
theorem Top.m_Begin_closes (T : Top K mg base) : Meth K (He.ga K "Begin") "closes" (He.ma K (He.ga K "Begin") "closes") := He.meth_ok (T.c.fact 106 rfl)
theorem Top.g_Close (T : Top K mg base) : mg "Close" = some (.ref (He.ga K "Close")) := He.glo_ok T.X T.G (T.c.fact 107 rfl)
theorem Top.c_Close (T : Top K mg base) : Cls K (He.ga K "Close") := He.cls_ok (T.c.fact 108 rfl)
theorem Top.k_Close (T : Top K mg base) : Mk K (He.ga K "Close") (He.ma K (He.ga K "Close") "__init__") := He.mkr_ok (T.c.fact 109 rfl)
theorem Top.n_Close_told (T : Top K mg base) : NoAttr K (He.ga K "Close") "told" := He.noat_ok (T.c.fact 110 rfl)
theorem Top.n_Close_voice (T : Top K mg base) : NoAttr K (He.ga K "Close") "voice" := He.noat_ok (T.c.fact 111 rfl)
theorem Top.n_Close_some (T : Top K mg base) : NoAttr K (He.ga K "Close") "some" := He.noat_ok (T.c.fact 112 rfl)
theorem Top.m_Close_size (T : Top K mg base) : Meth K (He.ga K "Close") "size" (He.ma K (He.ga K "Close") "size") := He.meth_ok (T.c.fact 113 rfl)
theorem Top.m_Close_start (T : Top K mg base) : Meth K (He.ga K "Close") "start" (He.ma K (He.ga K "Close") "start") := He.meth_ok (T.c.fact 114 rfl)
theorem Top.m_Close_after (T : Top K mg base) : Meth K (He.ga K "Close") "after" (He.ma K (He.ga K "Close") "after") := He.meth_ok (T.c.fact 115 rfl)
theorem Top.m_Close_closes (T : Top K mg base) : Meth K (He.ga K "Close") "closes" (He.ma K (He.ga K "Close") "closes") := He.meth_ok (T.c.fact 116 rfl)
theorem Top.g_Back (T : Top K mg base) : mg "Back" = some (.ref (He.ga K "Back")) := He.glo_ok T.X T.G (T.c.fact 117 rfl)
theorem Top.c_Back (T : Top K mg base) : Cls K (He.ga K "Back") := He.cls_ok (T.c.fact 118 rfl)
theorem Top.k_Back (T : Top K mg base) : Mk K (He.ga K "Back") (He.ma K (He.ga K "Back") "__init__") := He.mkr_ok (T.c.fact 119 rfl)
theorem Top.n_Back_told (T : Top K mg base) : NoAttr K (He.ga K "Back") "told" := He.noat_ok (T.c.fact 120 rfl)
theorem Top.n_Back_voice (T : Top K mg base) : NoAttr K (He.ga K "Back") "voice" := He.noat_ok (T.c.fact 121 rfl)
theorem Top.n_Back_far (T : Top K mg base) : NoAttr K (He.ga K "Back") "far" := He.noat_ok (T.c.fact 122 rfl)
theorem Top.m_Back_size (T : Top K mg base) : Meth K (He.ga K "Back") "size" (He.ma K (He.ga K "Back") "size") := He.meth_ok (T.c.fact 123 rfl)
theorem Top.m_Back_start (T : Top K mg base) : Meth K (He.ga K "Back") "start" (He.ma K (He.ga K "Back") "start") := He.meth_ok (T.c.fact 124 rfl)
theorem Top.m_Back_after (T : Top K mg base) : Meth K (He.ga K "Back") "after" (He.ma K (He.ga K "Back") "after") := He.meth_ok (T.c.fact 125 rfl)
theorem Top.m_Back_closes (T : Top K mg base) : Meth K (He.ga K "Back") "closes" (He.ma K (He.ga K "Back") "closes") := He.meth_ok (T.c.fact 126 rfl)
theorem Top.g_Held (T : Top K mg base) : mg "Held" = some (.ref (He.ga K "Held")) := He.glo_ok T.X T.G (T.c.fact 127 rfl)
theorem Top.c_Held (T : Top K mg base) : Cls K (He.ga K "Held") := He.cls_ok (T.c.fact 128 rfl)
theorem Top.k_Held (T : Top K mg base) : Mk K (He.ga K "Held") (He.ma K (He.ga K "Held") "__init__") := He.mkr_ok (T.c.fact 129 rfl)
theorem Top.n_Held_told (T : Top K mg base) : NoAttr K (He.ga K "Held") "told" := He.noat_ok (T.c.fact 130 rfl)
theorem Top.n_Held_voice (T : Top K mg base) : NoAttr K (He.ga K "Held") "voice" := He.noat_ok (T.c.fact 131 rfl)
theorem Top.n_Held_most (T : Top K mg base) : NoAttr K (He.ga K "Held") "most" := He.noat_ok (T.c.fact 132 rfl)
theorem Top.m_Held_size (T : Top K mg base) : Meth K (He.ga K "Held") "size" (He.ma K (He.ga K "Held") "size") := He.meth_ok (T.c.fact 133 rfl)
theorem Top.m_Held_start (T : Top K mg base) : Meth K (He.ga K "Held") "start" (He.ma K (He.ga K "Held") "start") := He.meth_ok (T.c.fact 134 rfl)
theorem Top.m_Held_after (T : Top K mg base) : Meth K (He.ga K "Held") "after" (He.ma K (He.ga K "Held") "after") := He.meth_ok (T.c.fact 135 rfl)
theorem Top.m_Held_closes (T : Top K mg base) : Meth K (He.ga K "Held") "closes" (He.ma K (He.ga K "Held") "closes") := He.meth_ok (T.c.fact 136 rfl)
theorem Top.g_Times (T : Top K mg base) : mg "Times" = some (.ref (He.ga K "Times")) := He.glo_ok T.X T.G (T.c.fact 137 rfl)
theorem Top.c_Times (T : Top K mg base) : Cls K (He.ga K "Times") := He.cls_ok (T.c.fact 138 rfl)
theorem Top.k_Times (T : Top K mg base) : Mk K (He.ga K "Times") (He.ma K (He.ga K "Times") "__init__") := He.mkr_ok (T.c.fact 139 rfl)
theorem Top.n_Times_told (T : Top K mg base) : NoAttr K (He.ga K "Times") "told" := He.noat_ok (T.c.fact 140 rfl)
theorem Top.n_Times_voice (T : Top K mg base) : NoAttr K (He.ga K "Times") "voice" := He.noat_ok (T.c.fact 141 rfl)
theorem Top.n_Times_note (T : Top K mg base) : NoAttr K (He.ga K "Times") "note" := He.noat_ok (T.c.fact 142 rfl)
theorem Top.n_Times_low (T : Top K mg base) : NoAttr K (He.ga K "Times") "low" := He.noat_ok (T.c.fact 143 rfl)
theorem Top.n_Times_high (T : Top K mg base) : NoAttr K (He.ga K "Times") "high" := He.noat_ok (T.c.fact 144 rfl)
theorem Top.m_Times_size (T : Top K mg base) : Meth K (He.ga K "Times") "size" (He.ma K (He.ga K "Times") "size") := He.meth_ok (T.c.fact 145 rfl)
theorem Top.m_Times_start (T : Top K mg base) : Meth K (He.ga K "Times") "start" (He.ma K (He.ga K "Times") "start") := He.meth_ok (T.c.fact 146 rfl)
theorem Top.m_Times_after (T : Top K mg base) : Meth K (He.ga K "Times") "after" (He.ma K (He.ga K "Times") "after") := He.meth_ok (T.c.fact 147 rfl)
theorem Top.m_Times_closes (T : Top K mg base) : Meth K (He.ga K "Times") "closes" (He.ma K (He.ga K "Times") "closes") := He.meth_ok (T.c.fact 148 rfl)
theorem Top.g_Every (T : Top K mg base) : mg "Every" = some (.ref (He.ga K "Every")) := He.glo_ok T.X T.G (T.c.fact 149 rfl)
theorem Top.c_Every (T : Top K mg base) : Cls K (He.ga K "Every") := He.cls_ok (T.c.fact 150 rfl)
theorem Top.k_Every (T : Top K mg base) : Mk K (He.ga K "Every") (He.ma K (He.ga K "Every") "__init__") := He.mkr_ok (T.c.fact 151 rfl)
theorem Top.n_Every_told (T : Top K mg base) : NoAttr K (He.ga K "Every") "told" := He.noat_ok (T.c.fact 152 rfl)
theorem Top.n_Every_beat (T : Top K mg base) : NoAttr K (He.ga K "Every") "beat" := He.noat_ok (T.c.fact 153 rfl)
theorem Top.n_Every_at (T : Top K mg base) : NoAttr K (He.ga K "Every") "at" := He.noat_ok (T.c.fact 154 rfl)
theorem Top.n_Every_rule (T : Top K mg base) : NoAttr K (He.ga K "Every") "rule" := He.noat_ok (T.c.fact 155 rfl)
theorem Top.m_Every_size (T : Top K mg base) : Meth K (He.ga K "Every") "size" (He.ma K (He.ga K "Every") "size") := He.meth_ok (T.c.fact 156 rfl)
theorem Top.m_Every_start (T : Top K mg base) : Meth K (He.ga K "Every") "start" (He.ma K (He.ga K "Every") "start") := He.meth_ok (T.c.fact 157 rfl)
theorem Top.m_Every_after (T : Top K mg base) : Meth K (He.ga K "Every") "after" (He.ma K (He.ga K "Every") "after") := He.meth_ok (T.c.fact 158 rfl)
theorem Top.m_Every_closes (T : Top K mg base) : Meth K (He.ga K "Every") "closes" (He.ma K (He.ga K "Every") "closes") := He.meth_ok (T.c.fact 159 rfl)
theorem Top.g_Move (T : Top K mg base) : mg "Move" = some (.ref (He.ga K "Move")) := He.glo_ok T.X T.G (T.c.fact 160 rfl)
theorem Top.c_Move (T : Top K mg base) : Cls K (He.ga K "Move") := He.cls_ok (T.c.fact 161 rfl)
theorem Top.k_Move (T : Top K mg base) : Mk K (He.ga K "Move") (He.ma K (He.ga K "Move") "__init__") := He.mkr_ok (T.c.fact 162 rfl)
theorem Top.n_Move_told (T : Top K mg base) : NoAttr K (He.ga K "Move") "told" := He.noat_ok (T.c.fact 163 rfl)
theorem Top.n_Move_voice (T : Top K mg base) : NoAttr K (He.ga K "Move") "voice" := He.noat_ok (T.c.fact 164 rfl)
theorem Top.n_Move_some (T : Top K mg base) : NoAttr K (He.ga K "Move") "some" := He.noat_ok (T.c.fact 165 rfl)
theorem Top.m_Move_size (T : Top K mg base) : Meth K (He.ga K "Move") "size" (He.ma K (He.ga K "Move") "size") := He.meth_ok (T.c.fact 166 rfl)
theorem Top.m_Move_start (T : Top K mg base) : Meth K (He.ga K "Move") "start" (He.ma K (He.ga K "Move") "start") := He.meth_ok (T.c.fact 167 rfl)
theorem Top.m_Move_after (T : Top K mg base) : Meth K (He.ga K "Move") "after" (He.ma K (He.ga K "Move") "after") := He.meth_ok (T.c.fact 168 rfl)
theorem Top.m_Move_closes (T : Top K mg base) : Meth K (He.ga K "Move") "closes" (He.ma K (He.ga K "Move") "closes") := He.meth_ok (T.c.fact 169 rfl)
theorem Top.g_Alike (T : Top K mg base) : mg "Alike" = some (.ref (He.ga K "Alike")) := He.glo_ok T.X T.G (T.c.fact 170 rfl)
theorem Top.c_Alike (T : Top K mg base) : Cls K (He.ga K "Alike") := He.cls_ok (T.c.fact 171 rfl)
theorem Top.k_Alike (T : Top K mg base) : Mk K (He.ga K "Alike") (He.ma K (He.ga K "Alike") "__init__") := He.mkr_ok (T.c.fact 172 rfl)
theorem Top.n_Alike_told (T : Top K mg base) : NoAttr K (He.ga K "Alike") "told" := He.noat_ok (T.c.fact 173 rfl)
theorem Top.n_Alike_one (T : Top K mg base) : NoAttr K (He.ga K "Alike") "one" := He.noat_ok (T.c.fact 174 rfl)
theorem Top.n_Alike_other (T : Top K mg base) : NoAttr K (He.ga K "Alike") "other" := He.noat_ok (T.c.fact 175 rfl)
theorem Top.n_Alike_some (T : Top K mg base) : NoAttr K (He.ga K "Alike") "some" := He.noat_ok (T.c.fact 176 rfl)
theorem Top.m_Alike_size (T : Top K mg base) : Meth K (He.ga K "Alike") "size" (He.ma K (He.ga K "Alike") "size") := He.meth_ok (T.c.fact 177 rfl)
theorem Top.m_Alike_start (T : Top K mg base) : Meth K (He.ga K "Alike") "start" (He.ma K (He.ga K "Alike") "start") := He.meth_ok (T.c.fact 178 rfl)
theorem Top.m_Alike_after (T : Top K mg base) : Meth K (He.ga K "Alike") "after" (He.ma K (He.ga K "Alike") "after") := He.meth_ok (T.c.fact 179 rfl)
theorem Top.m_Alike_closes (T : Top K mg base) : Meth K (He.ga K "Alike") "closes" (He.ma K (He.ga K "Alike") "closes") := He.meth_ok (T.c.fact 180 rfl)
theorem Top.g_Score (T : Top K mg base) : mg "Score" = some (.ref (He.ga K "Score")) := He.glo_ok T.X T.G (T.c.fact 181 rfl)
theorem Top.c_Score (T : Top K mg base) : Cls K (He.ga K "Score") := He.cls_ok (T.c.fact 182 rfl)
theorem Top.k_Score (T : Top K mg base) : Mk K (He.ga K "Score") (He.ma K (He.ga K "Score") "__init__") := He.mkr_ok (T.c.fact 183 rfl)
theorem Top.n_Score_ranges (T : Top K mg base) : NoAttr K (He.ga K "Score") "ranges" := He.noat_ok (T.c.fact 184 rfl)
theorem Top.n_Score_rules (T : Top K mg base) : NoAttr K (He.ga K "Score") "rules" := He.noat_ok (T.c.fact 185 rfl)
theorem Top.g_Machine (T : Top K mg base) : mg "Machine" = some (.ref (He.ga K "Machine")) := He.glo_ok T.X T.G (T.c.fact 186 rfl)
theorem Top.c_Machine (T : Top K mg base) : Cls K (He.ga K "Machine") := He.cls_ok (T.c.fact 187 rfl)
theorem Top.k_Machine (T : Top K mg base) : Mk K (He.ga K "Machine") (He.ma K (He.ga K "Machine") "__init__") := He.mkr_ok (T.c.fact 188 rfl)
theorem Top.n_Machine_score (T : Top K mg base) : NoAttr K (He.ga K "Machine") "score" := He.noat_ok (T.c.fact 189 rfl)
theorem Top.n_Machine_ways (T : Top K mg base) : NoAttr K (He.ga K "Machine") "ways" := He.noat_ok (T.c.fact 190 rfl)
theorem Top.n_Machine_good (T : Top K mg base) : NoAttr K (He.ga K "Machine") "good" := He.noat_ok (T.c.fact 191 rfl)
theorem Top.m_Machine_size (T : Top K mg base) : Meth K (He.ga K "Machine") "size" (He.ma K (He.ga K "Machine") "size") := He.meth_ok (T.c.fact 192 rfl)
theorem Top.m_Machine_to (T : Top K mg base) : Meth K (He.ga K "Machine") "to" (He.ma K (He.ga K "Machine") "to") := He.meth_ok (T.c.fact 193 rfl)
theorem Top.m_Machine_ends (T : Top K mg base) : Meth K (He.ga K "Machine") "ends" (He.ma K (He.ga K "Machine") "ends") := He.meth_ok (T.c.fact 194 rfl)
theorem Top.D_is_number (T : Top K mg base) : ∃ fd, FunD K d_is_number.name d_is_number.qual d_is_number.params d_is_number.body d_is_number.scope (d_is_number.dvs K) (d_is_number.kws K) (He.fAd K d_is_number.at_) fd := T.c.def_ 0 rfl
theorem Top.D_agrees (T : Top K mg base) : ∃ fd, FunD K d_agrees.name d_agrees.qual d_agrees.params d_agrees.body d_agrees.scope (d_agrees.dvs K) (d_agrees.kws K) (He.fAd K d_agrees.at_) fd := T.c.def_ 1 rfl
theorem Top.D_weight (T : Top K mg base) : ∃ fd, FunD K d_weight.name d_weight.qual d_weight.params d_weight.body d_weight.scope (d_weight.dvs K) (d_weight.kws K) (He.fAd K d_weight.at_) fd := T.c.def_ 2 rfl
theorem Top.D_columns (T : Top K mg base) : ∃ fd, FunD K d_columns.name d_columns.qual d_columns.params d_columns.body d_columns.scope (d_columns.dvs K) (d_columns.kws K) (He.fAd K d_columns.at_) fd := T.c.def_ 3 rfl
theorem Top.D_agreeing (T : Top K mg base) : ∃ fd, FunD K d_agreeing.name d_agreeing.qual d_agreeing.params d_agreeing.body d_agreeing.scope (d_agreeing.dvs K) (d_agreeing.kws K) (He.fAd K d_agreeing.at_) fd := T.c.def_ 4 rfl
theorem Top.D_ways_on (T : Top K mg base) : ∃ fd, FunD K d_ways_on.name d_ways_on.qual d_ways_on.params d_ways_on.body d_ways_on.scope (d_ways_on.dvs K) (d_ways_on.kws K) (He.fAd K d_ways_on.at_) fd := T.c.def_ 5 rfl
theorem Top.D_counts_paper (T : Top K mg base) : ∃ fd, FunD K d_counts_paper.name d_counts_paper.qual d_counts_paper.params d_counts_paper.body d_counts_paper.scope (d_counts_paper.dvs K) (d_counts_paper.kws K) (He.fAd K d_counts_paper.at_) fd := T.c.def_ 6 rfl
theorem Top.D_counted (T : Top K mg base) : ∃ fd, FunD K d_counted.name d_counted.qual d_counted.params d_counted.body d_counted.scope (d_counted.dvs K) (d_counted.kws K) (He.fAd K d_counted.at_) fd := T.c.def_ 7 rfl
theorem Top.D_first_state (T : Top K mg base) : ∃ fd, FunD K d_first_state.name d_first_state.qual d_first_state.params d_first_state.body d_first_state.scope (d_first_state.dvs K) (d_first_state.kws K) (He.fAd K d_first_state.at_) fd := T.c.def_ 8 rfl
theorem Top.D_next_state (T : Top K mg base) : ∃ fd, FunD K d_next_state.name d_next_state.qual d_next_state.params d_next_state.body d_next_state.scope (d_next_state.dvs K) (d_next_state.kws K) (He.fAd K d_next_state.at_) fd := T.c.def_ 9 rfl
theorem Top.D_ends_well (T : Top K mg base) : ∃ fd, FunD K d_ends_well.name d_ends_well.qual d_ends_well.params d_ends_well.body d_ends_well.scope (d_ends_well.dvs K) (d_ends_well.kws K) (He.fAd K d_ends_well.at_) fd := T.c.def_ 10 rfl
theorem Top.D_numbers_of (T : Top K mg base) : ∃ fd, FunD K d_numbers_of.name d_numbers_of.qual d_numbers_of.params d_numbers_of.body d_numbers_of.scope (d_numbers_of.dvs K) (d_numbers_of.kws K) (He.fAd K d_numbers_of.at_) fd := T.c.def_ 11 rfl
theorem Top.D_some_of (T : Top K mg base) : ∃ fd, FunD K d_some_of.name d_some_of.qual d_some_of.params d_some_of.body d_some_of.scope (d_some_of.dvs K) (d_some_of.kws K) (He.fAd K d_some_of.at_) fd := T.c.def_ 12 rfl
theorem Top.D_look_at (T : Top K mg base) : ∃ fd, FunD K d_look_at.name d_look_at.qual d_look_at.params d_look_at.body d_look_at.scope (d_look_at.dvs K) (d_look_at.kws K) (He.fAd K d_look_at.at_) fd := T.c.def_ 13 rfl
theorem Top.D_column_rule (T : Top K mg base) : ∃ fd, FunD K d_column_rule.name d_column_rule.qual d_column_rule.params d_column_rule.body d_column_rule.scope (d_column_rule.dvs K) (d_column_rule.kws K) (He.fAd K d_column_rule.at_) fd := T.c.def_ 14 rfl
theorem Top.D_alike_rule (T : Top K mg base) : ∃ fd, FunD K d_alike_rule.name d_alike_rule.qual d_alike_rule.params d_alike_rule.body d_alike_rule.scope (d_alike_rule.dvs K) (d_alike_rule.kws K) (He.fAd K d_alike_rule.at_) fd := T.c.def_ 15 rfl
theorem Top.D_voice_rule (T : Top K mg base) : ∃ fd, FunD K d_voice_rule.name d_voice_rule.qual d_voice_rule.params d_voice_rule.body d_voice_rule.scope (d_voice_rule.dvs K) (d_voice_rule.kws K) (He.fAd K d_voice_rule.at_) fd := T.c.def_ 16 rfl
theorem Top.D_every_rule (T : Top K mg base) : ∃ fd, FunD K d_every_rule.name d_every_rule.qual d_every_rule.params d_every_rule.body d_every_rule.scope (d_every_rule.dvs K) (d_every_rule.kws K) (He.fAd K d_every_rule.at_) fd := T.c.def_ 17 rfl
theorem Top.D_read_rule (T : Top K mg base) : ∃ fd, FunD K d_read_rule.name d_read_rule.qual d_read_rule.params d_read_rule.body d_read_rule.scope (d_read_rule.dvs K) (d_read_rule.kws K) (He.fAd K d_read_rule.at_) fd := T.c.def_ 18 rfl
theorem Top.D_read_range (T : Top K mg base) : ∃ fd, FunD K d_read_range.name d_read_range.qual d_read_range.params d_read_range.body d_read_range.scope (d_read_range.dvs K) (d_read_range.kws K) (He.fAd K d_read_range.at_) fd := T.c.def_ 19 rfl
theorem Top.D_read (T : Top K mg base) : ∃ fd, FunD K d_read.name d_read.qual d_read.params d_read.body d_read.scope (d_read.dvs K) (d_read.kws K) (He.fAd K d_read.at_) fd := T.c.def_ 20 rfl
theorem Top.D__law_at (T : Top K mg base) : ∃ fd, FunD K d__law_at.name d__law_at.qual d__law_at.params d__law_at.body d__law_at.scope (d__law_at.dvs K) (d__law_at.kws K) (He.fAd K d__law_at.at_) fd := T.c.def_ 21 rfl
theorem Top.D__law_draws (T : Top K mg base) : ∃ fd, FunD K d__law_draws.name d__law_draws.qual d__law_draws.params d__law_draws.body d__law_draws.scope (d__law_draws.dvs K) (d__law_draws.kws K) (He.fAd K d__law_draws.at_) fd := T.c.def_ 22 rfl
theorem Top.D__law_ranges (T : Top K mg base) : ∃ fd, FunD K d__law_ranges.name d__law_ranges.qual d__law_ranges.params d__law_ranges.body d__law_ranges.scope (d__law_ranges.dvs K) (d__law_ranges.kws K) (He.fAd K d__law_ranges.at_) fd := T.c.def_ 23 rfl
theorem Top.D__law_columns (T : Top K mg base) : ∃ fd, FunD K d__law_columns.name d__law_columns.qual d__law_columns.params d__law_columns.body d__law_columns.scope (d__law_columns.dvs K) (d__law_columns.kws K) (He.fAd K d__law_columns.at_) fd := T.c.def_ 24 rfl
theorem Top.D__law_some (T : Top K mg base) : ∃ fd, FunD K d__law_some.name d__law_some.qual d__law_some.params d__law_some.body d__law_some.scope (d__law_some.dvs K) (d__law_some.kws K) (He.fAd K d__law_some.at_) fd := T.c.def_ 25 rfl
theorem Top.D__law_pair_rule (T : Top K mg base) : ∃ fd, FunD K d__law_pair_rule.name d__law_pair_rule.qual d__law_pair_rule.params d__law_pair_rule.body d__law_pair_rule.scope (d__law_pair_rule.dvs K) (d__law_pair_rule.kws K) (He.fAd K d__law_pair_rule.at_) fd := T.c.def_ 26 rfl
theorem Top.D__law_voice_rule (T : Top K mg base) : ∃ fd, FunD K d__law_voice_rule.name d__law_voice_rule.qual d__law_voice_rule.params d__law_voice_rule.body d__law_voice_rule.scope (d__law_voice_rule.dvs K) (d__law_voice_rule.kws K) (He.fAd K d__law_voice_rule.at_) fd := T.c.def_ 27 rfl
theorem Top.D__law_rule (T : Top K mg base) : ∃ fd, FunD K d__law_rule.name d__law_rule.qual d__law_rule.params d__law_rule.body d__law_rule.scope (d__law_rule.dvs K) (d__law_rule.kws K) (He.fAd K d__law_rule.at_) fd := T.c.def_ 28 rfl
theorem Top.D__law_size (T : Top K mg base) : ∃ fd, FunD K d__law_size.name d__law_size.qual d__law_size.params d__law_size.body d__law_size.scope (d__law_size.dvs K) (d__law_size.kws K) (He.fAd K d__law_size.at_) fd := T.c.def_ 29 rfl
theorem Top.D__law_rules (T : Top K mg base) : ∃ fd, FunD K d__law_rules.name d__law_rules.qual d__law_rules.params d__law_rules.body d__law_rules.scope (d__law_rules.dvs K) (d__law_rules.kws K) (He.fAd K d__law_rules.at_) fd := T.c.def_ 30 rfl
theorem Top.D__law_row (T : Top K mg base) : ∃ fd, FunD K d__law_row.name d__law_row.qual d__law_row.params d__law_row.body d__law_row.scope (d__law_row.dvs K) (d__law_row.kws K) (He.fAd K d__law_row.at_) fd := T.c.def_ 31 rfl
theorem Top.D__law_text (T : Top K mg base) : ∃ fd, FunD K d__law_text.name d__law_text.qual d__law_text.params d__law_text.body d__law_text.scope (d__law_text.dvs K) (d__law_text.kws K) (He.fAd K d__law_text.at_) fd := T.c.def_ 32 rfl
theorem Top.D__law_span (T : Top K mg base) : ∃ fd, FunD K d__law_span.name d__law_span.qual d__law_span.params d__law_span.body d__law_span.scope (d__law_span.dvs K) (d__law_span.kws K) (He.fAd K d__law_span.at_) fd := T.c.def_ 33 rfl
theorem Top.D__law_pair_broken (T : Top K mg base) : ∃ fd, FunD K d__law_pair_broken.name d__law_pair_broken.qual d__law_pair_broken.params d__law_pair_broken.body d__law_pair_broken.scope (d__law_pair_broken.dvs K) (d__law_pair_broken.kws K) (He.fAd K d__law_pair_broken.at_) fd := T.c.def_ 34 rfl
theorem Top.D__law_turned_ill (T : Top K mg base) : ∃ fd, FunD K d__law_turned_ill.name d__law_turned_ill.qual d__law_turned_ill.params d__law_turned_ill.body d__law_turned_ill.scope (d__law_turned_ill.dvs K) (d__law_turned_ill.kws K) (He.fAd K d__law_turned_ill.at_) fd := T.c.def_ 35 rfl
theorem Top.D__law_broken (T : Top K mg base) : ∃ fd, FunD K d__law_broken.name d__law_broken.qual d__law_broken.params d__law_broken.body d__law_broken.scope (d__law_broken.dvs K) (d__law_broken.kws K) (He.fAd K d__law_broken.at_) fd := T.c.def_ 36 rfl
theorem Top.D__law_unbroken (T : Top K mg base) : ∃ fd, FunD K d__law_unbroken.name d__law_unbroken.qual d__law_unbroken.params d__law_unbroken.body d__law_unbroken.scope (d__law_unbroken.dvs K) (d__law_unbroken.kws K) (He.fAd K d__law_unbroken.at_) fd := T.c.def_ 37 rfl
theorem Top.D__law_line (T : Top K mg base) : ∃ fd, FunD K d__law_line.name d__law_line.qual d__law_line.params d__law_line.body d__law_line.scope (d__law_line.dvs K) (d__law_line.kws K) (He.fAd K d__law_line.at_) fd := T.c.def_ 38 rfl
theorem Top.D__law_cells (T : Top K mg base) : ∃ fd, FunD K d__law_cells.name d__law_cells.qual d__law_cells.params d__law_cells.body d__law_cells.scope (d__law_cells.dvs K) (d__law_cells.kws K) (He.fAd K d__law_cells.at_) fd := T.c.def_ 39 rfl
theorem Top.D__law_pattern (T : Top K mg base) : ∃ fd, FunD K d__law_pattern.name d__law_pattern.qual d__law_pattern.params d__law_pattern.body d__law_pattern.scope (d__law_pattern.dvs K) (d__law_pattern.kws K) (He.fAd K d__law_pattern.at_) fd := T.c.def_ 40 rfl
theorem Top.D__law_agrees (T : Top K mg base) : ∃ fd, FunD K d__law_agrees.name d__law_agrees.qual d__law_agrees.params d__law_agrees.body d__law_agrees.scope (d__law_agrees.dvs K) (d__law_agrees.kws K) (He.fAd K d__law_agrees.at_) fd := T.c.def_ 41 rfl
theorem Top.D__law_whole (T : Top K mg base) : ∃ fd, FunD K d__law_whole.name d__law_whole.qual d__law_whole.params d__law_whole.body d__law_whole.scope (d__law_whole.dvs K) (d__law_whole.kws K) (He.fAd K d__law_whole.at_) fd := T.c.def_ 42 rfl
theorem Top.D__law_drawn (T : Top K mg base) : ∃ fd, FunD K d__law_drawn.name d__law_drawn.qual d__law_drawn.params d__law_drawn.body d__law_drawn.scope (d__law_drawn.dvs K) (d__law_drawn.kws K) (He.fAd K d__law_drawn.at_) fd := T.c.def_ 43 rfl
theorem Top.D__law_numbers (T : Top K mg base) : ∃ fd, FunD K d__law_numbers.name d__law_numbers.qual d__law_numbers.params d__law_numbers.body d__law_numbers.scope (d__law_numbers.dvs K) (d__law_numbers.kws K) (He.fAd K d__law_numbers.at_) fd := T.c.def_ 44 rfl
theorem Top.D__law_sum (T : Top K mg base) : ∃ fd, FunD K d__law_sum.name d__law_sum.qual d__law_sum.params d__law_sum.body d__law_sum.scope (d__law_sum.dvs K) (d__law_sum.kws K) (He.fAd K d__law_sum.at_) fd := T.c.def_ 45 rfl
theorem Top.D__law_walked (T : Top K mg base) : ∃ fd, FunD K d__law_walked.name d__law_walked.qual d__law_walked.params d__law_walked.body d__law_walked.scope (d__law_walked.dvs K) (d__law_walked.kws K) (He.fAd K d__law_walked.at_) fd := T.c.def_ 46 rfl
theorem Top.D_law (T : Top K mg base) : ∃ fd, FunD K d_law.name d_law.qual d_law.params d_law.body d_law.scope (d_law.dvs K) (d_law.kws K) (He.fAd K d_law.at_) fd := T.c.def_ 47 rfl
theorem Top.D_Rule_init (T : Top K mg base) : ∃ fd, FunD K d_Rule_init.name d_Rule_init.qual d_Rule_init.params d_Rule_init.body d_Rule_init.scope (d_Rule_init.dvs K) (d_Rule_init.kws K) (He.fAd K d_Rule_init.at_) fd := T.c.def_ 48 rfl
theorem Top.D_Score_init (T : Top K mg base) : ∃ fd, FunD K d_Score_init.name d_Score_init.qual d_Score_init.params d_Score_init.body d_Score_init.scope (d_Score_init.dvs K) (d_Score_init.kws K) (He.fAd K d_Score_init.at_) fd := T.c.def_ 49 rfl
theorem Top.D_Machine_init (T : Top K mg base) : ∃ fd, FunD K d_Machine_init.name d_Machine_init.qual d_Machine_init.params d_Machine_init.body d_Machine_init.scope (d_Machine_init.dvs K) (d_Machine_init.kws K) (He.fAd K d_Machine_init.at_) fd := T.c.def_ 50 rfl
theorem Top.D_Machine_size (T : Top K mg base) : ∃ fd, FunD K d_Machine_size.name d_Machine_size.qual d_Machine_size.params d_Machine_size.body d_Machine_size.scope (d_Machine_size.dvs K) (d_Machine_size.kws K) (He.fAd K d_Machine_size.at_) fd := T.c.def_ 51 rfl
theorem Top.D_Machine_to (T : Top K mg base) : ∃ fd, FunD K d_Machine_to.name d_Machine_to.qual d_Machine_to.params d_Machine_to.body d_Machine_to.scope (d_Machine_to.dvs K) (d_Machine_to.kws K) (He.fAd K d_Machine_to.at_) fd := T.c.def_ 52 rfl
theorem Top.D_Machine_ends (T : Top K mg base) : ∃ fd, FunD K d_Machine_ends.name d_Machine_ends.qual d_Machine_ends.params d_Machine_ends.body d_Machine_ends.scope (d_Machine_ends.dvs K) (d_Machine_ends.kws K) (He.fAd K d_Machine_ends.at_) fd := T.c.def_ 53 rfl
theorem Top.D_Span_init (T : Top K mg base) : ∃ fd, FunD K d_Span_init.name d_Span_init.qual d_Span_init.params d_Span_init.body d_Span_init.scope (d_Span_init.dvs K) (d_Span_init.kws K) (He.fAd K d_Span_init.at_) fd := T.c.def_ 54 rfl
theorem Top.D_Span_size (T : Top K mg base) : ∃ fd, FunD K d_Span_size.name d_Span_size.qual d_Span_size.params d_Span_size.body d_Span_size.scope (d_Span_size.dvs K) (d_Span_size.kws K) (He.fAd K d_Span_size.at_) fd := T.c.def_ 55 rfl
theorem Top.D_Span_start (T : Top K mg base) : ∃ fd, FunD K d_Span_start.name d_Span_start.qual d_Span_start.params d_Span_start.body d_Span_start.scope (d_Span_start.dvs K) (d_Span_start.kws K) (He.fAd K d_Span_start.at_) fd := T.c.def_ 56 rfl
theorem Top.D_Span_after (T : Top K mg base) : ∃ fd, FunD K d_Span_after.name d_Span_after.qual d_Span_after.params d_Span_after.body d_Span_after.scope (d_Span_after.dvs K) (d_Span_after.kws K) (He.fAd K d_Span_after.at_) fd := T.c.def_ 57 rfl
theorem Top.D_Span_closes (T : Top K mg base) : ∃ fd, FunD K d_Span_closes.name d_Span_closes.qual d_Span_closes.params d_Span_closes.body d_Span_closes.scope (d_Span_closes.dvs K) (d_Span_closes.kws K) (He.fAd K d_Span_closes.at_) fd := T.c.def_ 58 rfl
theorem Top.D_Clock_init (T : Top K mg base) : ∃ fd, FunD K d_Clock_init.name d_Clock_init.qual d_Clock_init.params d_Clock_init.body d_Clock_init.scope (d_Clock_init.dvs K) (d_Clock_init.kws K) (He.fAd K d_Clock_init.at_) fd := T.c.def_ 59 rfl
theorem Top.D_Clock_size (T : Top K mg base) : ∃ fd, FunD K d_Clock_size.name d_Clock_size.qual d_Clock_size.params d_Clock_size.body d_Clock_size.scope (d_Clock_size.dvs K) (d_Clock_size.kws K) (He.fAd K d_Clock_size.at_) fd := T.c.def_ 60 rfl
theorem Top.D_Clock_start (T : Top K mg base) : ∃ fd, FunD K d_Clock_start.name d_Clock_start.qual d_Clock_start.params d_Clock_start.body d_Clock_start.scope (d_Clock_start.dvs K) (d_Clock_start.kws K) (He.fAd K d_Clock_start.at_) fd := T.c.def_ 61 rfl
theorem Top.D_Clock_after (T : Top K mg base) : ∃ fd, FunD K d_Clock_after.name d_Clock_after.qual d_Clock_after.params d_Clock_after.body d_Clock_after.scope (d_Clock_after.dvs K) (d_Clock_after.kws K) (He.fAd K d_Clock_after.at_) fd := T.c.def_ 62 rfl
theorem Top.D_Clock_closes (T : Top K mg base) : ∃ fd, FunD K d_Clock_closes.name d_Clock_closes.qual d_Clock_closes.params d_Clock_closes.body d_Clock_closes.scope (d_Clock_closes.dvs K) (d_Clock_closes.kws K) (He.fAd K d_Clock_closes.at_) fd := T.c.def_ 63 rfl
theorem Top.D_Begin_init (T : Top K mg base) : ∃ fd, FunD K d_Begin_init.name d_Begin_init.qual d_Begin_init.params d_Begin_init.body d_Begin_init.scope (d_Begin_init.dvs K) (d_Begin_init.kws K) (He.fAd K d_Begin_init.at_) fd := T.c.def_ 64 rfl
theorem Top.D_Begin_size (T : Top K mg base) : ∃ fd, FunD K d_Begin_size.name d_Begin_size.qual d_Begin_size.params d_Begin_size.body d_Begin_size.scope (d_Begin_size.dvs K) (d_Begin_size.kws K) (He.fAd K d_Begin_size.at_) fd := T.c.def_ 65 rfl
theorem Top.D_Begin_start (T : Top K mg base) : ∃ fd, FunD K d_Begin_start.name d_Begin_start.qual d_Begin_start.params d_Begin_start.body d_Begin_start.scope (d_Begin_start.dvs K) (d_Begin_start.kws K) (He.fAd K d_Begin_start.at_) fd := T.c.def_ 66 rfl
theorem Top.D_Begin_after (T : Top K mg base) : ∃ fd, FunD K d_Begin_after.name d_Begin_after.qual d_Begin_after.params d_Begin_after.body d_Begin_after.scope (d_Begin_after.dvs K) (d_Begin_after.kws K) (He.fAd K d_Begin_after.at_) fd := T.c.def_ 67 rfl
theorem Top.D_Begin_closes (T : Top K mg base) : ∃ fd, FunD K d_Begin_closes.name d_Begin_closes.qual d_Begin_closes.params d_Begin_closes.body d_Begin_closes.scope (d_Begin_closes.dvs K) (d_Begin_closes.kws K) (He.fAd K d_Begin_closes.at_) fd := T.c.def_ 68 rfl
theorem Top.D_Close_init (T : Top K mg base) : ∃ fd, FunD K d_Close_init.name d_Close_init.qual d_Close_init.params d_Close_init.body d_Close_init.scope (d_Close_init.dvs K) (d_Close_init.kws K) (He.fAd K d_Close_init.at_) fd := T.c.def_ 69 rfl
theorem Top.D_Close_size (T : Top K mg base) : ∃ fd, FunD K d_Close_size.name d_Close_size.qual d_Close_size.params d_Close_size.body d_Close_size.scope (d_Close_size.dvs K) (d_Close_size.kws K) (He.fAd K d_Close_size.at_) fd := T.c.def_ 70 rfl
theorem Top.D_Close_start (T : Top K mg base) : ∃ fd, FunD K d_Close_start.name d_Close_start.qual d_Close_start.params d_Close_start.body d_Close_start.scope (d_Close_start.dvs K) (d_Close_start.kws K) (He.fAd K d_Close_start.at_) fd := T.c.def_ 71 rfl
theorem Top.D_Close_after (T : Top K mg base) : ∃ fd, FunD K d_Close_after.name d_Close_after.qual d_Close_after.params d_Close_after.body d_Close_after.scope (d_Close_after.dvs K) (d_Close_after.kws K) (He.fAd K d_Close_after.at_) fd := T.c.def_ 72 rfl
theorem Top.D_Close_closes (T : Top K mg base) : ∃ fd, FunD K d_Close_closes.name d_Close_closes.qual d_Close_closes.params d_Close_closes.body d_Close_closes.scope (d_Close_closes.dvs K) (d_Close_closes.kws K) (He.fAd K d_Close_closes.at_) fd := T.c.def_ 73 rfl
theorem Top.D_Back_init (T : Top K mg base) : ∃ fd, FunD K d_Back_init.name d_Back_init.qual d_Back_init.params d_Back_init.body d_Back_init.scope (d_Back_init.dvs K) (d_Back_init.kws K) (He.fAd K d_Back_init.at_) fd := T.c.def_ 74 rfl
theorem Top.D_Back_size (T : Top K mg base) : ∃ fd, FunD K d_Back_size.name d_Back_size.qual d_Back_size.params d_Back_size.body d_Back_size.scope (d_Back_size.dvs K) (d_Back_size.kws K) (He.fAd K d_Back_size.at_) fd := T.c.def_ 75 rfl
theorem Top.D_Back_start (T : Top K mg base) : ∃ fd, FunD K d_Back_start.name d_Back_start.qual d_Back_start.params d_Back_start.body d_Back_start.scope (d_Back_start.dvs K) (d_Back_start.kws K) (He.fAd K d_Back_start.at_) fd := T.c.def_ 76 rfl
theorem Top.D_Back_after (T : Top K mg base) : ∃ fd, FunD K d_Back_after.name d_Back_after.qual d_Back_after.params d_Back_after.body d_Back_after.scope (d_Back_after.dvs K) (d_Back_after.kws K) (He.fAd K d_Back_after.at_) fd := T.c.def_ 77 rfl
theorem Top.D_Back_closes (T : Top K mg base) : ∃ fd, FunD K d_Back_closes.name d_Back_closes.qual d_Back_closes.params d_Back_closes.body d_Back_closes.scope (d_Back_closes.dvs K) (d_Back_closes.kws K) (He.fAd K d_Back_closes.at_) fd := T.c.def_ 78 rfl
theorem Top.D_Held_init (T : Top K mg base) : ∃ fd, FunD K d_Held_init.name d_Held_init.qual d_Held_init.params d_Held_init.body d_Held_init.scope (d_Held_init.dvs K) (d_Held_init.kws K) (He.fAd K d_Held_init.at_) fd := T.c.def_ 79 rfl
theorem Top.D_Held_size (T : Top K mg base) : ∃ fd, FunD K d_Held_size.name d_Held_size.qual d_Held_size.params d_Held_size.body d_Held_size.scope (d_Held_size.dvs K) (d_Held_size.kws K) (He.fAd K d_Held_size.at_) fd := T.c.def_ 80 rfl
theorem Top.D_Held_start (T : Top K mg base) : ∃ fd, FunD K d_Held_start.name d_Held_start.qual d_Held_start.params d_Held_start.body d_Held_start.scope (d_Held_start.dvs K) (d_Held_start.kws K) (He.fAd K d_Held_start.at_) fd := T.c.def_ 81 rfl
theorem Top.D_Held_after (T : Top K mg base) : ∃ fd, FunD K d_Held_after.name d_Held_after.qual d_Held_after.params d_Held_after.body d_Held_after.scope (d_Held_after.dvs K) (d_Held_after.kws K) (He.fAd K d_Held_after.at_) fd := T.c.def_ 82 rfl
theorem Top.D_Held_closes (T : Top K mg base) : ∃ fd, FunD K d_Held_closes.name d_Held_closes.qual d_Held_closes.params d_Held_closes.body d_Held_closes.scope (d_Held_closes.dvs K) (d_Held_closes.kws K) (He.fAd K d_Held_closes.at_) fd := T.c.def_ 83 rfl
theorem Top.D_Times_init (T : Top K mg base) : ∃ fd, FunD K d_Times_init.name d_Times_init.qual d_Times_init.params d_Times_init.body d_Times_init.scope (d_Times_init.dvs K) (d_Times_init.kws K) (He.fAd K d_Times_init.at_) fd := T.c.def_ 84 rfl
theorem Top.D_Times_size (T : Top K mg base) : ∃ fd, FunD K d_Times_size.name d_Times_size.qual d_Times_size.params d_Times_size.body d_Times_size.scope (d_Times_size.dvs K) (d_Times_size.kws K) (He.fAd K d_Times_size.at_) fd := T.c.def_ 85 rfl
theorem Top.D_Times_start (T : Top K mg base) : ∃ fd, FunD K d_Times_start.name d_Times_start.qual d_Times_start.params d_Times_start.body d_Times_start.scope (d_Times_start.dvs K) (d_Times_start.kws K) (He.fAd K d_Times_start.at_) fd := T.c.def_ 86 rfl
theorem Top.D_Times_after (T : Top K mg base) : ∃ fd, FunD K d_Times_after.name d_Times_after.qual d_Times_after.params d_Times_after.body d_Times_after.scope (d_Times_after.dvs K) (d_Times_after.kws K) (He.fAd K d_Times_after.at_) fd := T.c.def_ 87 rfl
theorem Top.D_Times_closes (T : Top K mg base) : ∃ fd, FunD K d_Times_closes.name d_Times_closes.qual d_Times_closes.params d_Times_closes.body d_Times_closes.scope (d_Times_closes.dvs K) (d_Times_closes.kws K) (He.fAd K d_Times_closes.at_) fd := T.c.def_ 88 rfl
theorem Top.D_Every_init (T : Top K mg base) : ∃ fd, FunD K d_Every_init.name d_Every_init.qual d_Every_init.params d_Every_init.body d_Every_init.scope (d_Every_init.dvs K) (d_Every_init.kws K) (He.fAd K d_Every_init.at_) fd := T.c.def_ 89 rfl
theorem Top.D_Every_size (T : Top K mg base) : ∃ fd, FunD K d_Every_size.name d_Every_size.qual d_Every_size.params d_Every_size.body d_Every_size.scope (d_Every_size.dvs K) (d_Every_size.kws K) (He.fAd K d_Every_size.at_) fd := T.c.def_ 90 rfl
theorem Top.D_Every_start (T : Top K mg base) : ∃ fd, FunD K d_Every_start.name d_Every_start.qual d_Every_start.params d_Every_start.body d_Every_start.scope (d_Every_start.dvs K) (d_Every_start.kws K) (He.fAd K d_Every_start.at_) fd := T.c.def_ 91 rfl
theorem Top.D_Every_after (T : Top K mg base) : ∃ fd, FunD K d_Every_after.name d_Every_after.qual d_Every_after.params d_Every_after.body d_Every_after.scope (d_Every_after.dvs K) (d_Every_after.kws K) (He.fAd K d_Every_after.at_) fd := T.c.def_ 92 rfl
theorem Top.D_Every_closes (T : Top K mg base) : ∃ fd, FunD K d_Every_closes.name d_Every_closes.qual d_Every_closes.params d_Every_closes.body d_Every_closes.scope (d_Every_closes.dvs K) (d_Every_closes.kws K) (He.fAd K d_Every_closes.at_) fd := T.c.def_ 93 rfl
theorem Top.D_Move_init (T : Top K mg base) : ∃ fd, FunD K d_Move_init.name d_Move_init.qual d_Move_init.params d_Move_init.body d_Move_init.scope (d_Move_init.dvs K) (d_Move_init.kws K) (He.fAd K d_Move_init.at_) fd := T.c.def_ 94 rfl
theorem Top.D_Move_size (T : Top K mg base) : ∃ fd, FunD K d_Move_size.name d_Move_size.qual d_Move_size.params d_Move_size.body d_Move_size.scope (d_Move_size.dvs K) (d_Move_size.kws K) (He.fAd K d_Move_size.at_) fd := T.c.def_ 95 rfl
theorem Top.D_Move_start (T : Top K mg base) : ∃ fd, FunD K d_Move_start.name d_Move_start.qual d_Move_start.params d_Move_start.body d_Move_start.scope (d_Move_start.dvs K) (d_Move_start.kws K) (He.fAd K d_Move_start.at_) fd := T.c.def_ 96 rfl
theorem Top.D_Move_after (T : Top K mg base) : ∃ fd, FunD K d_Move_after.name d_Move_after.qual d_Move_after.params d_Move_after.body d_Move_after.scope (d_Move_after.dvs K) (d_Move_after.kws K) (He.fAd K d_Move_after.at_) fd := T.c.def_ 97 rfl
theorem Top.D_Move_closes (T : Top K mg base) : ∃ fd, FunD K d_Move_closes.name d_Move_closes.qual d_Move_closes.params d_Move_closes.body d_Move_closes.scope (d_Move_closes.dvs K) (d_Move_closes.kws K) (He.fAd K d_Move_closes.at_) fd := T.c.def_ 98 rfl
theorem Top.D_Alike_init (T : Top K mg base) : ∃ fd, FunD K d_Alike_init.name d_Alike_init.qual d_Alike_init.params d_Alike_init.body d_Alike_init.scope (d_Alike_init.dvs K) (d_Alike_init.kws K) (He.fAd K d_Alike_init.at_) fd := T.c.def_ 99 rfl
theorem Top.D_Alike_size (T : Top K mg base) : ∃ fd, FunD K d_Alike_size.name d_Alike_size.qual d_Alike_size.params d_Alike_size.body d_Alike_size.scope (d_Alike_size.dvs K) (d_Alike_size.kws K) (He.fAd K d_Alike_size.at_) fd := T.c.def_ 100 rfl
theorem Top.D_Alike_start (T : Top K mg base) : ∃ fd, FunD K d_Alike_start.name d_Alike_start.qual d_Alike_start.params d_Alike_start.body d_Alike_start.scope (d_Alike_start.dvs K) (d_Alike_start.kws K) (He.fAd K d_Alike_start.at_) fd := T.c.def_ 101 rfl
theorem Top.D_Alike_after (T : Top K mg base) : ∃ fd, FunD K d_Alike_after.name d_Alike_after.qual d_Alike_after.params d_Alike_after.body d_Alike_after.scope (d_Alike_after.dvs K) (d_Alike_after.kws K) (He.fAd K d_Alike_after.at_) fd := T.c.def_ 102 rfl
theorem Top.D_Alike_closes (T : Top K mg base) : ∃ fd, FunD K d_Alike_closes.name d_Alike_closes.qual d_Alike_closes.params d_Alike_closes.body d_Alike_closes.scope (d_Alike_closes.dvs K) (d_Alike_closes.kws K) (He.fAd K d_Alike_closes.at_) fd := T.c.def_ 103 rfl
end
end Fv
set_option Elab.async false
set_option linter.all false
set_option maxRecDepth 100000
set_option maxHeartbeats 0
namespace Fv
open PySem PySem.Spec PyProof.Rows L2
abbrev R : PySem.W.OpenRow := PySem.W.OpenLaw.row PySem.Challenge.rw_fourvoices_k42_paper_of_counts
def names0 : List Str := ["_wall", "ScoreError", "BadRow", "TooWide", "FIGURES", "MOST_words", "is_number", "agrees", "Rule", "Span", "Clock", "Begin", "Close", "MOST_scores", "Score", "weight", "columns", "agreeing", "ways_on", "counts_paper", "counted", "first_state", "next_state", "ends_well", "Machine", "CALM", "UP", "DOWN", "Back", "Held"]
def names1 : List Str := ["Times", "Every", "Move", "Alike", "MOST_rulereader", "numbers_of", "some_of", "look_at", "column_rule", "alike_rule", "voice_rule", "every_rule", "read_rule", "VOICES", "RULES", "read_range", "read", "_law_at", "_law_draws", "_law_ranges", "_law_columns", "_law_some", "_law_pair_rule", "_law_voice_rule", "_law_rule", "_law_size", "_law_rules", "_law_row", "_law_text", "_law_span"]
def names2 : List Str := ["_law_pair_broken", "_law_turned_ill", "_law_broken", "_law_ill_close", "_law_fault", "_law_unbroken", "_law_line", "_law_cells", "_law_pattern", "_law_agrees", "_law_whole", "_law_drawn", "_law_numbers", "_law_sum", "_law_walked"]
def names : List Str := names0 ++ names1 ++ names2
theorem run (w : World) : HandSHeadRun.RunEq R (PySem.W.view R.prog [87]) hk ob 20000 names w := by
  intro os
  kernel_rfl
end Fv
set_option Elab.async false
set_option linter.all false
set_option maxRecDepth 100000
set_option maxHeartbeats 4000000
/-! Rules of our own over the hand layer: calls by promises, ranges of any whole numbers, zip of a list and a tuple, len(set(..)), a class's own __init__, an instance's method whatever its class. -/
namespace Fv
open PySem PySem.Spec PyProof.Rows L2
/-! ### calls by promises -/
def ruleNames : List Str := ["Span", "Clock", "Begin", "Close", "Back", "Held", "Times", "Every", "Move", "Alike"]
/-- o.m(..), o an instance of one of the classes L; the promise hangs on the class -/
def tRule (K : PySem.W.Frag) (L : List Str) (m : Str) (sp : Str → Sp) (ta : TE) (t : TA) : TE := fun σ H Q => ta σ H fun x H1 => ∃ c ∈ L, ∃ a dx fs, x = .ref a ∧ H1 a = some (.ins (He.ga K c) dx fs) ∧ fs.lookup m = none ∧
  t σ H1 fun vs H2 => sp c (x :: vs) H2 Q E0
/-- each of the classes L keeps its promise by its method m -/
def ROk (P : Program) (w : World) (K : PySem.W.Frag) (mg : Str → Option Value) (base : Heap) (L : List Str) (m : Str) (k : Nat) (ps : List Str) (sp : Str → Sp) : Prop :=
  ∀ c ∈ L, MOk P w K mg base (He.ga K c) m k ps (sp c)
section
variable {X : Cx} {e o : Expr} {es : List Expr} {t : TA} {ta : TE} {k : Nat} {ps : List Str} {sp : Sp} {x m : Str} {p pos apos : Pos} {C : Addr} {pl : Sem Bool}
/-- f(e, ..) by f's promise -/
theorem dcall (D : DOk X.prog X.w X.K X.mg X.base x k ps sp) (hr : Room k X.A) (hg : Gl X x) (ha : PA X (e :: es) t)
    (hdb : (x == ("__debug__" : Str)) = false := by decide) (he : starEach (e :: es) X.env = (false, eval e X.env) :: starEach es X.env := by rfl) (hpl : (backTo pos (starEach es X.env)).any (·.1) = false := by rfl) :
    PE X (.Call (.Name x p) (e :: es) [] pos) (tCall sp [] E0 t) := by
  obtain ⟨fd, F, b, kp, g⟩ := D
  exact pe_call F hr hg g kp b .nil pass0 ha hdb he hpl
/-- C(e, ..) by its __init__'s promise -/
theorem kmake (D : KOk X.prog X.w X.K X.mg X.base x k ps sp) (hr : Room (k + 1) X.A) (hg : Gl X x) (ha : PA X (e :: es) t)
    (hdb : (x == ("__debug__" : Str)) = false := by decide) (he : starEach (e :: es) X.env = (false, eval e X.env) :: starEach es X.env := by rfl) (hpl : (backTo pos (starEach es X.env)).any (·.1) = false := by rfl) :
    PE X (.Call (.Name x p) (e :: es) [] pos) (tMake (He.ga X.K x) sp [] E0 t) := by
  obtain ⟨f, fd, F, b, M, g⟩ := D
  exact pe_make M F hr hg g b .nil pass0 ha hdb he hpl
/-- o.m(e, ..) by m's promise -/
theorem mcall (D : MOk X.prog X.w X.K X.mg X.base C m k ps sp) (hr : Room k X.A) (ho : PE X o ta) (ha : PA X (e :: es) t)
    (hst : starEach (e :: es) X.env = (false, eval e X.env) :: starEach es X.env := by rfl) (hpl : (backTo pos (starEach es X.env)).any (·.1) = false := by rfl)
    (ht : eval (.Call (.Attribute o m apos) (e :: es) [] pos) X.env = (do
      let ov ← eval o X.env
      standAt apos.atName
      let (f, first) ← holding [ov] (getMethod ov m pl)
      callWith pos f first (backTo pos (starEach (e :: es) X.env)) (backToKw pos (keywordEach [] X.env))) := by rfl) :
    PE X (.Call (.Attribute o m apos) (e :: es) [] pos) (tMeth C m sp [] E0 ta t) := by
  obtain ⟨f, fd, F, b, c, hm⟩ := D
  exact pe_meth ho c hm F hr b .nil pass0 ha hst hpl ht
theorem mcall0 (D : MOk X.prog X.w X.K X.mg X.base C m k ps sp) (hr : Room k X.A) (ho : PE X o ta)
    (ht : eval (.Call (.Attribute o m apos) [] [] pos) X.env = (do
      let ov ← eval o X.env
      standAt apos.atName
      let (f, first) ← holding [ov] (getMethod ov m pl)
      callWith pos f first (backTo pos (starEach [] X.env)) (backToKw pos (keywordEach [] X.env))) := by rfl) :
    PE X (.Call (.Attribute o m apos) [] [] pos) (tMeth C m sp [] E0 ta tNil) := by
  obtain ⟨f, fd, F, b, c, hm⟩ := D
  exact pe_meth0 ho c hm F hr b .nil pass0 ht
theorem rcall {L : List Str} {sq : Str → Sp} (D : ROk X.prog X.w X.K X.mg X.base L m k ps sq) (hr : Room k X.A) (ho : PE X o ta) (ha : PA X (e :: es) t)
    (hst : starEach (e :: es) X.env = (false, eval e X.env) :: starEach es X.env := by rfl) (hpl : (backTo pos (starEach es X.env)).any (·.1) = false := by rfl)
    (ht : eval (.Call (.Attribute o m apos) (e :: es) [] pos) X.env = (do
      let ov ← eval o X.env
      standAt apos.atName
      let (f, first) ← holding [ov] (getMethod ov m pl)
      callWith pos f first (backTo pos (starEach (e :: es) X.env)) (backToKw pos (keywordEach [] X.env))) := by rfl) :
    PE X (.Call (.Attribute o m apos) (e :: es) [] pos) (tRule X.K L m sq ta t) := by
  refine ⟨fun pins s σ H Q I h => ?_⟩
  refine PySem.W.methodCall_KW (pl := pl) (thn (ho.run pins s σ H _ I h) fun u s1 ⟨x, H1, I1, rx, cn, hcn, a, dx, fs, ex, ea, l, q⟩ => ?_) ht
  obtain ⟨f, fd, F, b, c, hm⟩ := D cn hcn
  subst ex
  obtain rfl : u = Value.ref a := rx
  refine getmeth_ok I1 ea c hm l ?_
  refine PySem.W.callWith_K (first := [.ref a]) (h₀ := X.base) I.ok.mod.kin hm.kp (thn (ha.run pos pins s1 σ H1 _ I1 q) fun us s2 ⟨vs, H2, I2, r, q2⟩ => ⟨I2.kIn, ?_⟩) hst hpl
  exact run_fn (us := .ref a :: us) (vs := .ref a :: vs) F hr b .nil pass0 I2 (.cons rfl r) (by rw [List.append_nil]; exact q2)
theorem rcall0 {L : List Str} {sq : Str → Sp} (D : ROk X.prog X.w X.K X.mg X.base L m k ps sq) (hr : Room k X.A) (ho : PE X o ta)
    (ht : eval (.Call (.Attribute o m apos) [] [] pos) X.env = (do
      let ov ← eval o X.env
      standAt apos.atName
      let (f, first) ← holding [ov] (getMethod ov m pl)
      callWith pos f first (backTo pos (starEach [] X.env)) (backToKw pos (keywordEach [] X.env))) := by rfl) :
    PE X (.Call (.Attribute o m apos) [] [] pos) (tRule X.K L m sq ta tNil) := by
  refine ⟨fun pins s σ H Q I h => ?_⟩
  refine PySem.W.methodCall_KW (pl := pl) (thn (ho.run pins s σ H _ I h) fun u s1 ⟨x, H1, I1, rx, cn, hcn, a, dx, fs, ex, ea, l, q⟩ => ?_) ht
  obtain ⟨f, fd, F, b, c, hm⟩ := D cn hcn
  subst ex
  obtain rfl : u = Value.ref a := rx
  refine getmeth_ok I1 ea c hm l ?_
  exact PySem.W.callWith_K0 (first := [.ref a]) I1.kIn hm.kp (run_fn (us := [.ref a]) (vs := [.ref a]) F hr b .nil pass0 I1 (.cons rfl .nil) (by exact q))
/-- Rule.__init__(e, ..): the class's own function, read off the class -/
theorem pe_rinit {f : Addr} {fd : FuncData} (rd : PySem.W.readsIn X.K C (.type "type") = true) (ga : PySem.W.specialIn X.K (.ref C) "__getattribute__" = some (some (.builtin "type.__getattribute__")))
    (at_ : PySem.W.findCls X.K (.ref C) (.type "type") m = some (.val (.ref f))) (kp : PySem.W.keepIn X.K (.ref f) = true)
    (F : FnOk X.prog X.w X.K X.mg X.base CX0 k f fd ps sp) (b : Binds X.K fd ps []) (hr : Room k X.A) (ho : PE X o ta) (ha : PA X (e :: es) t)
    (hst : starEach (e :: es) X.env = (false, eval e X.env) :: starEach es X.env := by rfl) (hpl : (backTo pos (starEach es X.env)).any (·.1) = false := by rfl)
    (ht : eval (.Call (.Attribute o m apos) (e :: es) [] pos) X.env = (do
      let ov ← eval o X.env
      standAt apos.atName
      let (f, first) ← holding [ov] (getMethod ov m pl)
      callWith pos f first (backTo pos (starEach (e :: es) X.env)) (backToKw pos (keywordEach [] X.env))) := by rfl) :
    PE X (.Call (.Attribute o m apos) (e :: es) [] pos) (fun σ H Q => ta σ H fun x H1 => x = .ref C ∧ t σ H1 fun vs H2 => sp vs H2 Q E0) := by
  refine ⟨fun pins s σ H Q I h => ?_⟩
  refine PySem.W.methodCall_KW (pl := pl) (thn (ho.run pins s σ H _ I h) fun u s1 ⟨x, H1, I1, rx, ex, q⟩ => ?_) ht
  subst ex
  obtain rfl : u = Value.ref C := rx
  refine PySem.W.method_cls I1.kIn ga (PySem.W.cls_value I1.kIn rd at_ (handed_of (v := V.ref f) rfl) ?_)
  have I2 := I1.tok (s1.toks + 1)
  refine PySem.W.callWith_K (first := []) (h₀ := X.base) I.ok.mod.kin kp (thn (ha.run pos pins _ σ H1 _ I2 q) fun us s2 ⟨vs, H2, I3, r, q2⟩ => ⟨I3.kIn, ?_⟩) hst hpl
  exact run_fn F hr b .nil pass0 I3 r (by rw [List.append_nil]; exact q2)
/-- a module's constant -/
theorem pe_gi {i : Int} (hg : Gl X x) (hm : ∃ t, X.mg x = some (.int i t)) (hd : (x == ("__debug__" : Str)) = false := by decide) : PE X (.Name x pos) (tC (.int i)) := by
  obtain ⟨t, hm⟩ := hm
  exact pe_glob hg hm ⟨t, rfl⟩ hd
theorem pe_gs {i : Str} (hg : Gl X x) (hm : ∃ t, X.mg x = some (.str i t)) (hd : (x == ("__debug__" : Str)) = false := by decide) : PE X (.Name x pos) (tC (.str i)) := by
  obtain ⟨t, hm⟩ := hm
  exact pe_glob hg hm ⟨t, rfl⟩ hd
/-- str(x) of an int or a text -/
theorem call_str_any : CallR X (.type "str") (fun xs H Q => (∃ i, xs = [.int i] ∧ i.natAbs.log2 < 1920 ∧ Q (.str (toString i)) H) ∨ ∃ a, xs = [.str a] ∧ Q (.str a) H) := by
  intro pins s σ H xs us Q I r h
  rcases h with h | h
  · exact call_str_int pins s σ H xs us Q I r h
  · exact SkE.call_str_str pins s σ H xs us Q I r h
end
/-! ### range(a, b) of any whole numbers -/
theorem turn_long {P : Program} {w : World} {K : PySem.W.Frag} {tg : Expr} (it : Addr) (lo : Int) (n : Nat) : Turn P w K tg (Itr lo n) [it] it (fun i h => IsLongIter h it (lo + (i : Nat) * 1) ((n : Int) - (i : Nat)) 1) where
  mem := by simp
  obj := fun i h st b hb => by
    have e : b = it := by simpa using hb
    subst e
    exact ⟨_, st, fun v z => by
      have z' : Data.fields _ = Data.cell v := z
      cases z'⟩
  keep := fun i h h' st k => k it (by simp) _ st
  item := by
    intro X hP hw hK hc i pins s σ H E I hf st hg
    subst hP hw hK
    obtain ⟨f0, f1, f2, f3, f4, f5⟩ := hf it (by simp)
    have W := Walks.longrange (prog := X.prog) (w := X.w) (I.ok.hd hc) it lo 1 n
    refine W.item i s _ _ hg st fun v h' tk hv st' kk => ?_
    obtain ⟨t, rfl⟩ := hv
    have I1 : Inv X pins σ H { s with heap := h', toks := tk } := I.turned (fun b o hb e => kk b o (by simpa using hb) e) f0 f1 f3 f4 f5
    refine ⟨_, rfl, go_of (s := { s with heap := h', toks := tk }) (n := "longrange_iterator") st' rfl rfl (by decide) ⟨.int (lo + i), H, I1, ⟨t, ?_⟩, ⟨rfl, rfl⟩, st', fun b hb => (hf b hb).1⟩⟩
    rw [Int.mul_one]
  done := by
    intro X hP hw hK hc i pins s σ H E I hf st hg
    subst hP hw hK
    obtain ⟨f0, f1, f2, f3, f4, f5⟩ := hf it (by simp)
    exact wpAny_pyNext_long_end (I.ok.hd hc) st (by have : n ≤ i := hg; omega) fun h' eb => ⟨rfl, I.turned (t' := s.toks) (fun b o hb e => eb b o hb e) f0 f1 f3 f4 f5⟩
  self := fun _ _ _ _ _ st h => wpAny_pyIter_longiter st h
def iRngW (ta : TA) : TI := fun σ H R => ta σ H fun vs H1 => ∃ i j : Int, vs = [.int i, .int j] ∧ R (Itr i (j - i).toNat) H1
theorem range_itW {X : Cx} {tg : Expr} {pins : List (Addr × Obj)} {σ : L2.St} {H : Hp} {s : Shared} {R : It → Hp → Prop} {E : Value → Shared → Prop} {lo hi : Int} {t u v : Tok} {tk : Nat} (I : Inv X pins σ H s)
    (q : R (Itr lo (hi - lo).toNat) H) : wpAny (model X.prog X.w) X.A (pyIter (.ref s.heap.objs.size)) (PIE X pins σ tg R) E { s with heap := s.heap.push { cls := .type "range", data := .fields #[.int lo t, .int hi u, .int 1 v] }, toks := tk } := by
  have I1 : Inv X pins σ H { s with heap := s.heap.push { cls := .type "range", data := .fields #[.int lo t, .int hi u, .int 1 v] }, toks := tk } := I.kept fun b o e => Heap.get?_push_of_some _ e
  have e1 : lo + ((0 : Nat) : Int) * 1 = lo := by simp
  have e2 : (((hi - lo).toNat : Nat) : Int) - ((0 : Nat) : Int) = Builtin.Range.rangeSize lo hi 1 := by rw [rangeSize_one]; split <;> omega
  have fp : ∀ b ∈ [(s.heap.push { cls := .type "range", data := .fields #[.int lo t, .int hi u, .int 1 v] }).objs.size], FpOk X pins H b := fun b hb => by
    have e : b = (s.heap.push { cls := .type "range", data := .fields #[.int lo t, .int hi u, .int 1 v] }).objs.size := by simpa using hb
    subst e
    exact I1.fpOk (Nat.le_refl _) (I1.hok.fresh (Nat.le_refl _))
  by_cases hs : Builtin.Range.small lo hi 1 = true
  · refine wpAny_pyIter_range (IsRange.new ..) hs ?_
    refine ⟨(s.heap.push { cls := .type "range", data := .fields #[.int lo t, .int hi u, .int 1 v] }).objs.size, [(s.heap.push { cls := .type "range", data := .fields #[.int lo t, .int hi u, .int 1 v] }).objs.size], _, _, H, rfl,
      I1.kept (t' := tk) fun b o e => Heap.get?_push_of_some _ e, turn_range _ lo (hi - lo).toNat, ?_, fp, q⟩
    show IsRangeIter _ _ (lo + ((0 : Nat) : Int) * 1) ((((hi - lo).toNat : Nat) : Int) - ((0 : Nat) : Int)) 1
    rw [e1, e2]
    exact Heap.get?_push_size _ rfl
  · refine wpAny_pyIter_longrange (IsRange.new ..) (by simpa using hs) ?_
    refine ⟨(s.heap.push { cls := .type "range", data := .fields #[.int lo t, .int hi u, .int 1 v] }).objs.size, [(s.heap.push { cls := .type "range", data := .fields #[.int lo t, .int hi u, .int 1 v] }).objs.size], _, _, H, rfl,
      I1.kept (t' := tk) fun b o e => Heap.get?_push_of_some _ e, turn_long _ lo (hi - lo).toNat, ?_, fp, q⟩
    show IsLongIter _ _ (lo + ((0 : Nat) : Int) * 1) ((((hi - lo).toNat : Nat) : Int) - ((0 : Nat) : Int)) 1
    rw [e1, e2]
    exact Heap.get?_push_size _ rfl
theorem pi_rangeW {X : Cx} {tg a b : Expr} {ta : TA} {p pos : Pos} (hg : Gl X "range") (hm : X.mg "range" = none) (ha : PA X [a, b] ta) (hs : starEach [a, b] X.env = [(false, eval a X.env), (false, eval b X.env)] := by rfl) (hs2 : starEach [b] X.env = [(false, eval b X.env)] := by rfl) :
    PI X tg (.Call (.Name "range" p) [a, b] [] pos) (iRngW ta) := by
  refine ⟨fun pins s σ H R I h => ?_⟩
  refine Call_ (ld_blt I hg hm boot_range (PyProof.Rows.callWith_type1 (thn (ha.run pos pins s σ H _ I h) fun us s1 ⟨vs, H1, I1, r1, q1⟩ => ?_) (by rw [hs, hs2]) (by rw [hs2]; rfl)))
  obtain ⟨i, j, e, q⟩ := q1
  subst e
  cases r1 with
  | cons r rr =>
    cases rr with
    | cons r' rr =>
      cases rr
      obtain ⟨t, rfl⟩ := r
      obtain ⟨t', rfl⟩ := r'
      exact call_range_2 (range_itW I1 q)
/-! ### zip of a list and a tuple -/
def ItzM (K : PySem.W.Frag) (a b : Addr) : It :=
  ⟨fun i H => ∃ (xs ys : List V) (x y : V), SqL K H a xs ∧ SqT K H b ys ∧ xs[i]? = some x ∧ ys[i]? = some y,
    fun i H v H' => ∃ T x y, v = .ref T ∧ H T = none ∧ H' = upd H T (.tup [x, y]) ∧ (∀ xs, SqL K H a xs → xs[i]? = some x) ∧ ∀ ys, SqT K H b ys → ys[i]? = some y,
    fun i H => ∃ xs ys : List V, SqL K H a xs ∧ SqT K H b ys ∧ xs.length = i ∧ ys.length = i⟩
theorem zip_sepM {a b z TI TO i1 i2 : Addr} (D : ZipApart z TI TO i1 i2 a b) : ZipSep2 z TI TO i1 i2 [i1, a] [i2, b] :=
  { TIz := D.TIz, TOz := D.TOz, TITO := D.TITO, TIi1 := D.TIi1, mem1 := List.mem_cons_self .., zf1 := by simp [D.i1z.symm, D.l1z.symm], Tf1 := by simp [D.TOi1, D.l1TO.symm], TIi2 := D.TIi2, mem2 := List.mem_cons_self ..,
    zf2 := by simp [D.i2z.symm, D.l2z.symm], Tf2 := by simp [D.TOi2, D.l2TO.symm], sep1_2 := by simp [D.i12, D.l2i1.symm], sep2_1 := by simp [D.i12.symm, D.l1i2.symm] }
theorem turn_zipM {P : Program} {w : World} {K : PySem.W.Frag} {elts : List Expr} {kk : Nat} {tpos : Pos} {a b z TI TO i1 i2 : Addr} (D : ZipApart z TI TO i1 i2 a b) :
    Turn P w K (.Tuple elts kk tpos) (ItzM K a b) [z, TI, TO, i1, i2] z (fun i h => IsZip h z TI TO .none ∧ IsTupOf2 h TI (.ref i1) (.ref i2) ∧ (∃ x y, IsTupOf2 h TO x y) ∧ h.IsListIter i1 a i ∧ h.IsTupleIter i2 b i) where
  mem := by simp
  obj := fun i h st c hc => by
    obtain ⟨hz, hTI, ⟨x, y, hTO⟩, ⟨o1, e1, _, d1⟩, ⟨o2, e2, _, d2⟩⟩ := st
    have e' : c = z ∨ c = TI ∨ c = TO ∨ c = i1 ∨ c = i2 := by simpa using hc
    rcases e' with q | q | q | q | q
    · rw [q]; exact ⟨_, hz, fun v q => nomatch q⟩
    · rw [q]; exact ⟨_, hTI, fun v q => nomatch q⟩
    · rw [q]; exact ⟨_, hTO, fun v q => nomatch q⟩
    · rw [q]; exact ⟨o1, e1, fun v q => by rw [d1] at q; cases q⟩
    · rw [q]; exact ⟨o2, e2, fun v q => by rw [d2] at q; cases q⟩
  keep := fun i h h' st k => by
    obtain ⟨hz, hTI, ⟨x, y, hTO⟩, h1, h2⟩ := st
    exact ⟨k z (by simp) _ hz, k TI (by simp) _ hTI, ⟨x, y, k TO (by simp) _ hTO⟩, h1.at fun o q => k i1 (by simp) o q, h2.at fun o q => k i2 (by simp) o q⟩
  item := by
    intro X hP hw hK hc i pins s σ H E I hf st hg
    subst hP hw hK
    obtain ⟨hz, hTI, hTO, h1, h2⟩ := st
    obtain ⟨xs, ys, x, y, hqx, hqy, hx, hy⟩ := hg
    obtain ⟨its, rv, p, _⟩ := I.list hqx
    obtain ⟨its2, rv2, p2, _⟩ := I.tuple hqy
    have hzl : z < s.heap.objs.size := Heap.lt_size hz
    have l1 : i < its.toArray.size := by rw [List.size_toArray, ← rv.length]; exact (List.getElem?_eq_some_iff.mp hx).1
    have l2 : i < its2.toArray.size := by rw [List.size_toArray, ← rv2.length]; exact (List.getElem?_eq_some_iff.mp hy).1
    have hh : X.A.in1.handled = none := I.ok.hd hc
    have G := GoesN.zip2 (elts := elts) (x1 := kk) (pos := tpos) (prog := X.prog) (w := X.w) (zip_sepM D) (Draws.list hh i1 a D.l1i1 its.toArray) (Draws.tuple hh i2 b D.l2i2 its2.toArray)
    refine wpAny_mono (G.goes i s (fun u s' => _) E (by omega) ⟨hz, hTI, hTO, ⟨h1, p.isList⟩, ⟨h2, show s.heap.IsTuple b its2.toArray from p2⟩⟩ fun v h' tk hY st' kk' htk => ?hq) (fun r s' q => q) fun _ _ q => q
    obtain ⟨T, u, u2, rfl, hT, hu, hu2, hTT⟩ := hY
    obtain ⟨z', TI', TO', ⟨h1', _⟩, ⟨h2', _⟩⟩ := st'
    have ru : RelV x u := by
      obtain ⟨u', e1, r1⟩ := rv.get hx
      have e2 : its[i]? = some u := by simpa using hu
      rw [e1] at e2
      cases e2
      exact r1
    have ru2 : RelV y u2 := by
      obtain ⟨u', e1, r1⟩ := rv2.get hy
      have e2 : its2[i]? = some u2 := by simpa using hu2
      rw [e1] at e2
      cases e2
      exact r1
    obtain ⟨oT, hoT, hcT, nT, hdT⟩ := hTT
    have new : ObjOk X.prog X.w (upd H T (.tup [x, y])) h' T (.tup [x, y]) :=
      ⟨by show 2 ≤ sizeLine; decide, [u, u2], .cons ru (.cons ru2 .nil), ⟨oT, hoT, hcT, nT, hdT⟩⟩
    have I1 : Inv X pins σ (upd H T (.tup [x, y])) { s with heap := h', toks := tk } :=
      I.turnedNew (t' := tk) (ch := [z, TI, TO, i1, i2]) (fun c o hb q => kk' c o (fun q' => hb (by
        have e' : c = z ∨ c = TO ∨ c = i1 ∨ c = i2 := by simpa using q'
        rcases e' with r | r | r | r <;> simp [r])) q) hf hT new
    refine ⟨.ref T, _, I1, rfl, ⟨_, x, y, rfl, I.hok.fresh hT, rfl, fun l hl => by rw [I.list_inj hl hqx]; exact hx, fun l hl => by rw [I.tuple_inj hl hqy]; exact hy⟩, ⟨z', TI', TO', h1', h2'⟩, fun c hcm => ?_⟩
    have hlt : c < s.heap.objs.size := by
      have e' : c = z ∨ c = TI ∨ c = TO ∨ c = i1 ∨ c = i2 := by simpa using hcm
      rcases e' with q | q | q | q | q
      · rw [q]; exact hzl
      · rw [q]; exact Heap.lt_size hTI
      · rw [q]; obtain ⟨_, _, q2⟩ := hTO; exact Heap.lt_size q2
      · rw [q]; obtain ⟨_, e1, _⟩ := h1; exact Heap.lt_size e1
      · rw [q]; obtain ⟨_, e2, _⟩ := h2; exact Heap.lt_size e2
    rw [upd_ne (Nat.ne_of_lt (Nat.lt_of_lt_of_le hlt hT))]
    exact (hf c hcm).1
  done := by
    intro X hP hw hK hc i pins s σ H E I hf st hg
    subst hP hw hK
    obtain ⟨hz, hTI, hTO, h1, h2⟩ := st
    obtain ⟨xs, ys, hqx, hqy, hx, hy⟩ := hg
    obtain ⟨its, rv, p, _⟩ := I.list hqx
    obtain ⟨its2, rv2, p2, _⟩ := I.tuple hqy
    have l1 : its.toArray.size = i := by rw [List.size_toArray, ← rv.length]; exact hx
    have l2 : its2.toArray.size = i := by rw [List.size_toArray, ← rv2.length]; exact hy
    have hh : X.A.in1.handled = none := I.ok.hd hc
    have G := GoesN.zip2 (elts := elts) (x1 := kk) (pos := tpos) (prog := X.prog) (w := X.w) (zip_sepM D) (Draws.list hh i1 a D.l1i1 its.toArray) (Draws.tuple hh i2 b D.l2i2 its2.toArray)
    have en : min its.toArray.size its2.toArray.size = i := by omega
    rw [en] at G
    refine G.stops s _ E ⟨hz, hTI, hTO, ⟨h1, p.isList⟩, ⟨h2, show s.heap.IsTuple b its2.toArray from p2⟩⟩ fun h' tk kk' htk => ?_
    exact I.turnedL (t' := tk) (ch := [z, TI, TO, i1, i2]) (fun c o hb q => kk' c o (fun q' => hb (by
        have e' : c = z ∨ c = TO ∨ c = i1 ∨ c = i2 := by simpa using q'
        rcases e' with r | r | r | r <;> simp [r])) q) hf
  self := fun A i s Q E st h => wpAny_pyIter_zip st.1 h
def iZipM (K : PySem.W.Frag) (ta : TA) : TI := fun σ H R => ta σ H fun vs H1 => ∃ a b xs ys, vs = [.ref a, .ref b] ∧ SqL K H1 a xs ∧ SqT K H1 b ys ∧ R (ItzM K a b) H1
theorem pi_zipM {X : Cx} {e e2 : Expr} {ta : TA} {p pos tpos : Pos} {elts : List Expr} {kk : Nat} (hg : Gl X "zip") (hm : X.mg "zip" = none) (ha : PA X [e, e2] ta)
    (hs : starEach [e, e2] X.env = (false, eval e X.env) :: starEach [e2] X.env := by rfl) (hpl : (backTo pos (starEach [e2] X.env)).any (·.1) = false := by rfl) :
    PI X (.Tuple elts kk tpos) (.Call (.Name "zip" p) [e, e2] [] pos) (iZipM X.K ta) := by
  refine ⟨fun pins s σ H R I h => ?_⟩
  refine Call_ (ld_blt I hg hm PyProof.Rows.boot_zip (PyProof.Rows.callWith_type1 (thn (ha.run pos pins s σ H _ I h) fun us s1 ⟨vs, H1, I1, r1, q1⟩ => ?_) hs hpl))
  obtain ⟨a, b, xs, ys, ex, hqx, hqy, q⟩ := q1
  subst ex
  cases r1 with
  | cons r rr =>
    cases rr with
    | cons r' rr =>
      cases rr
      cases r
      cases r'
      have fresh5 : ∀ c, c ∈ [s1.heap.objs.size + 4, s1.heap.objs.size + 2, s1.heap.objs.size + 3, s1.heap.objs.size, s1.heap.objs.size + 1] → FpOk X pins H1 c := fun c hcm => by
        have e' : c = s1.heap.objs.size + 4 ∨ c = s1.heap.objs.size + 2 ∨ c = s1.heap.objs.size + 3 ∨ c = s1.heap.objs.size ∨ c = s1.heap.objs.size + 1 := by simpa using hcm
        have hle : s1.heap.objs.size ≤ c := by
          rcases e' with z | z | z | z | z
          · rw [z]; exact Nat.le_add_right _ _
          · rw [z]; exact Nat.le_add_right _ _
          · rw [z]; exact Nat.le_add_right _ _
          · rw [z]; exact Nat.le_refl _
          · rw [z]; exact Nat.le_add_right _ _
        exact I1.fpOk hle (I1.hok.fresh hle)
      obtain ⟨its, rv, p1, _⟩ := I1.list hqx
      obtain ⟨its2, rv2, p2, _⟩ := I1.tuple hqy
      obtain ⟨o2, ho2, _⟩ := id p2
      refine zip_begins2 (begins_list a its.toArray) (begins_tuple b its2.toArray) p1.isList (show s1.heap.IsTuple b its2.toArray from p2) fun h' hz hTI hTO h1 h2 hsz hk => wpAny_pyIter_zip hz ?_
      have I2 : Inv X pins σ H1 { s1 with heap := h' } := I1.kept (t' := s1.toks) hk
      exact ⟨s1.heap.objs.size + 4, [s1.heap.objs.size + 4, s1.heap.objs.size + 2, s1.heap.objs.size + 3, s1.heap.objs.size, s1.heap.objs.size + 1], _, _, H1, rfl, I2, turn_zipM (PySem.W.ktu_apart s1.heap.objs.size a b p1.lt (Heap.lt_size ho2)),
        ⟨hz, hTI, ⟨_, _, hTO⟩, ⟨_, h1, rfl, rfl⟩, ⟨_, h2, rfl, rfl⟩⟩, fresh5, q⟩
theorem walk_zipM {K : PySem.W.Frag} {a b : Addr} {xs ys : List V} (hl : xs.length = ys.length) : L2.Walk (ItzM K a b) xs.length (fun H => SqL K H a xs ∧ SqT K H b ys) (YPair (fun i => xs[i]?) (fun i => ys[i]?)) :=
  ⟨fun i H hi h => ⟨xs, ys, xs[i], ys[i]'(by omega), h.1, h.2, by simp [hi], by simp⟩, fun H h => ⟨xs, ys, h.1, h.2, rfl, hl.symm⟩, fun i H x H' hi h y => by
    obtain ⟨T, u, v, e1, e2, e3, e4, e5⟩ := y
    exact ⟨T, u, v, e1, e2, e3, e4 xs h.1, e5 ys h.2⟩⟩
/-! ### len(set(xs)) of whole numbers: some whole number -/
theorem firstMet_len (f : Nat → Int) : ∀ i, (PyProof.Rows.firstMet f i).length ≤ i
  | 0 => Nat.le_refl _
  | i + 1 => by
    have ih := firstMet_len f i
    rw [PyProof.Rows.firstMet_succ]
    unfold PyProof.Rows.step_dedup
    split
    · omega
    · rw [List.length_append, List.length_singleton]; omega
def tLenSetA (K : PySem.W.Frag) (ta : TE) : TE := fun σ H Q => ta σ H fun x H1 => ∃ (l : Addr) (ns : List Int), x = .ref l ∧ SqL K H1 l (ns.map V.int) ∧ ns.length ≤ 1000 ∧ ∀ k : Int, Q (.int k) H1
theorem pe_lenSetA {X : Cx} {a : Expr} {ta : TE} {p p2 q pos : Pos} (hg : Gl X "len") (hm : X.mg "len" = none) (hg2 : Gl X "set") (hm2 : X.mg "set" = none) (ha : PE X a ta) (hc : X.calm = true := by rfl)
    (na : starEach [a] X.env = (false, eval a X.env) :: starEach [] X.env := by rfl) : PE X (.Call (.Name "len" p) [.Call (.Name "set" p2) [a] [] q] [] pos) (tLenSetA X.K ta) := by
  refine ⟨fun pins s σ H Q I h => ?_⟩
  refine Call_ (ld_blt I hg hm boot_len ?_)
  refine PyProof.Rows.callWith_builtin1 (PyProof.Rows.args_cons ?_ rfl) rfl rfl
  refine Call_ (ld_blt I hg2 hm2 boot_set ?_)
  refine PyProof.Rows.callWith_type1 (PyProof.Rows.args_cons (thn (ha.run pins s σ H _ I h) fun v s1 ⟨x, H1, I1, r1, q1⟩ => PyProof.Rows.args_nil ?_) na) na rfl
  obtain ⟨l, ns, rfl, hq, hl, q1⟩ := q1
  cases r1
  obtain ⟨its, r, pl, hz⟩ := I1.list hq
  have hlen : its.toArray.size = ns.length := by rw [List.size_toArray, ← r.length, List.length_map]
  refine call_set_list (I1.ok.hd hc) pl.isList (by simpa using RZ.intsAre_vals r) (by rw [hlen]; unfold scanBound; omega) fun h' tk hS hk => ?_
  refine PyProof.Rows.args_nil ?_
  rw [hlen] at hS
  have hb := firstMet_len (fun i => ns.getD i 0) ns.length
  obtain ⟨o, es, ep, t, ho, hex, hd, _, _, _, hf, hn⟩ := hS
  have I2 : Inv X pins σ H1 { s1 with heap := h', toks := tk } := I1.kept fun b o e => hk b o (Heap.lt_size e) e
  exact call_len_set ho hex hd hf (by rw [hn] <;> omega) ⟨.int _, H1, I2.tok _, ⟨_, rfl⟩, q1 _⟩
end Fv
set_option Elab.async false
set_option linter.all false
set_option maxRecDepth 100000
set_option maxHeartbeats 4000000
/-! A dict whose keys are a machine's states: (None | a tuple of whole numbers, a tuple of whole numbers). -/
namespace Fv
open PySem PySem.Spec PyProof.Rows L2
abbrev SK := Option (List Int) × List Int
def kB : Option (List Int) → NestedKey
  | none => .none
  | some c => .tup (c.map .num)
def kSt (k : SK) : NestedKey := .tup [kB k.1, .tup (k.2.map .num)]
theorem num_inj : ∀ {a b : List Int}, a.map NestedKey.num = b.map NestedKey.num → a = b
  | [], [], _ => rfl
  | [], _ :: _, h => by cases h
  | _ :: _, [], h => by cases h
  | x :: a, y :: b, h => by
    rw [List.map_cons, List.map_cons] at h
    injection h with h1 h2
    injection h1 with h3
    rw [h3, num_inj h2]
theorem kB_inj {a b : Option (List Int)} (h : kB a = kB b) : a = b := by
  cases a with
  | none => cases b with
    | none => rfl
    | some d => cases h
  | some c => cases b with
    | none => cases h
    | some d =>
      have h1 : NestedKey.tup (c.map .num) = NestedKey.tup (d.map .num) := h
      injection h1 with h2
      rw [num_inj h2]
theorem kSt_inj {a b : SK} (h : kSt a = kSt b) : a = b := by
  obtain ⟨a1, a2⟩ := a
  obtain ⟨b1, b2⟩ := b
  have h1 : NestedKey.tup [kB a1, .tup (a2.map .num)] = NestedKey.tup [kB b1, .tup (b2.map .num)] := h
  injection h1 with h2
  injection h2 with h3 h4
  injection h4 with h5 h6
  injection h5 with h7
  rw [kB_inj h3, num_inj h7]
/-- the column ahead, None or a tuple -/
def BfIs (H : Hp) (b : Option (List Int)) (v : V) : Prop := match b with
  | none => v = .non
  | some c => ∃ ca, v = .ref ca ∧ H ca = some (.tup (c.map V.int))
/-- a state's tuple -/
def StIs (H : Hp) (k : SK) (a : Addr) : Prop := ∃ bv mv, H a = some (.tup [bv, .ref mv]) ∧ H mv = some (.tup (k.2.map V.int)) ∧ BfIs H k.1 bv
theorem BfIs.mono {H H' : Hp} {b : Option (List Int)} {v : V} (s : ∀ a xs, H a = some (.tup xs) → H' a = some (.tup xs)) (h : BfIs H b v) : BfIs H' b v := by
  cases b with
  | none => exact h
  | some c =>
    obtain ⟨ca, e, q⟩ := h
    exact ⟨ca, e, s _ _ q⟩
theorem StIs.mono {H H' : Hp} {k : SK} {a : Addr} (s : ∀ a xs, H a = some (.tup xs) → H' a = some (.tup xs)) (h : StIs H k a) : StIs H' k a := by
  obtain ⟨bv, mv, e1, e2, e3⟩ := h
  exact ⟨bv, mv, s _ _ e1, s _ _ e2, e3.mono s⟩
theorem nums_all {h : Heap} : ∀ {c : List Int} {us : List Value}, Vals (c.map V.int) us → NestedAll h (c.map .num) us
  | [], _, .nil => .nil
  | n :: c, _, .cons r t => by
    obtain ⟨k, rfl⟩ := r
    exact .cons (.int n k) (nums_all t)
theorem tup_is {P : Program} {w : World} {H : Hp} {h : Heap} {a : Addr} {xs : List V} {ks : List NestedKey} (ok : HOk P w H h) (e : H a = some (.tup xs)) (hk : ∀ us, Vals xs us → NestedAll h ks us) : NestedIs h (.tup ks) (.ref a) := by
  obtain ⟨_, its, r, o, h1, h2, n, h3⟩ := (show ObjOk P w H h a (.tup xs) from ok a _ e)
  exact .tup h1 h2 h3 (by simpa using hk its r)
theorem depth_nums : ∀ c : List Int, NestedKey.depthAll (c.map .num) = 0
  | [] => rfl
  | n :: c => by
    show max (NestedKey.depth (.num n)) (NestedKey.depthAll (c.map .num)) = 0
    rw [depth_nums c]
    rfl
theorem depth_kSt (k : SK) : (kSt k).depth ≤ 8 := by
  obtain ⟨b, m⟩ := k
  have e2 : NestedKey.depth (.tup (m.map .num)) = 1 := by
    show NestedKey.depthAll (m.map .num) + 1 = 1
    rw [depth_nums]
  have e1 : NestedKey.depth (kB b) ≤ 1 := by
    cases b with
    | none => exact Nat.zero_le _
    | some c =>
      show NestedKey.depthAll (c.map .num) + 1 ≤ 1
      rw [depth_nums]
      exact Nat.le_refl _
  show max (NestedKey.depth (kB b)) (max (NestedKey.depth (.tup (m.map .num))) 0) + 1 ≤ 8
  rw [e2]
  omega
theorem st_is {P : Program} {w : World} {H : Hp} {h : Heap} {k : SK} {a : Addr} (ok : HOk P w H h) (e : StIs H k a) : (nestedKind P w).is h (kSt k) a := by
  obtain ⟨bv, mv, e1, e2, e3⟩ := e
  refine ⟨tup_is ok e1 fun us r => ?_, depth_kSt k⟩
  cases r with
  | cons r1 rr =>
    cases rr with
    | cons r2 rr =>
      cases rr
      cases r2
      refine .cons ?_ (.cons (tup_is ok e2 fun us r => nums_all r) .nil)
      obtain ⟨b, m⟩ := k
      cases b with
      | none =>
        have e4 : bv = .non := e3
        subst e4
        cases r1
        exact .none
      | some c =>
        obtain ⟨ca, e4, e5⟩ := e3
        subst e4
        cases r1
        exact tup_is ok e5 fun us r => nums_all r
abbrev NkR (x : SK × Addr × V) (y : NestedKey × Addr × Value) : Prop := y.1 = kSt x.1 ∧ y.2.1 = x.2.1 ∧ RelV x.2.2 y.2.2
def NkP (P : Program) (w : World) (d : Addr) (xs : List (SK × Addr × V)) (h : Heap) : Prop := (d == sysModules) = false ∧ xs.length ≤ sizeLine ∧ ∃ ys : List (NestedKey × Addr × Value), Paired NkR xs ys ∧
  ∃ o es ep, h.get? d = some o ∧ o.ExactDict ∧ o.data = .dict es ep ∧ es.toList = ys.map (entryOfKey (nestedKind P w)) ∧ (ys.map (·.1)).Nodup
/-- such a dict: its entries in order, each with its key's tuple -/
def NkO (P : Program) (w : World) (d : Addr) (xs : List (SK × Addr × V)) : HO := .ext (NkP P w d xs)
def NkKeys (H : Hp) (xs : List (SK × Addr × V)) : Prop := ∀ x ∈ xs, StIs H x.1 x.2.1
def valS (xs : List (SK × Addr × V)) (k : SK) : Option V := (xs.find? fun x => decide (x.1 = k)).map (·.2.2)
theorem NkP.stay {P : Program} {w : World} {d : Addr} {xs : List (SK × Addr × V)} {h1 h2 : Heap} (x : NkP P w d xs h1) (k : ∀ o, h1.get? d = some o → h2.get? d = some o) : NkP P w d xs h2 := by
  obtain ⟨a, b, ys, r, o, es, ep, e, c⟩ := x
  exact ⟨a, b, ys, r, o, es, ep, k o e, c⟩
theorem NkP.ok {P : Program} {w : World} {H : Hp} {d : Addr} {xs : List (SK × Addr × V)} {h : Heap} (x : NkP P w d xs h) : ObjOk P w H h d (NkO P w d xs) := by
  obtain ⟨_, _, _, _, o, _, _, e, _⟩ := id x
  exact ⟨x, ⟨o, e⟩, fun h1 h2 q k => q.stay k⟩
theorem nk_of {P : Program} {w : World} {H : Hp} {h : Heap} {d : Addr} {xs : List (SK × Addr × V)} (ok : HOk P w H h) (e : H d = some (NkO P w d xs)) (kk : NkKeys H xs) :
    (d == sysModules) = false ∧ xs.length ≤ sizeLine ∧ ∃ ys, Paired NkR xs ys ∧ h.DictOfH (nestedKind P w) d ys := by
  obtain ⟨⟨a, b, ys, r, o, es, ep, e1, e2, e3, e4, e5⟩, _, _⟩ := (show ObjOk P w H h d (NkO P w d xs) from ok d _ e)
  refine ⟨a, b, ys, r, o, es, ep, e1, e2, e3, e4, ?_, e5⟩
  have all : ∀ {l : List (SK × Addr × V)} {m : List (NestedKey × Addr × Value)}, Paired NkR l m → NkKeys H l → ∀ y ∈ m, (nestedKind P w).is h y.1 y.2.1 := by
    intro l m q
    induction q with
    | nil => intro _ y hy; exact nomatch hy
    | @cons p q ps qs hq t ih =>
      intro hk y hy
      rcases List.mem_cons.mp hy with e | hy
      · subst e
        rw [hq.1, hq.2.1]
        exact st_is ok (hk p (List.mem_cons_self ..))
      · exact ih (fun x hx => hk x (List.mem_cons_of_mem _ hx)) y hy
  exact all r kk
theorem at_val {k : SK} : ∀ {xs : List (SK × Addr × V)} {ys : List (NestedKey × Addr × Value)}, Paired NkR xs ys → (∃ v p, valS xs k = some v ∧ atKey ys (kSt k) = some p ∧ RelV v p.2) ∨ (valS xs k = none ∧ atKey ys (kSt k) = none)
  | _, _, .nil => .inr ⟨rfl, rfl⟩
  | _, _, .cons (a := x) (b := y) hq t => by
    by_cases e : x.1 = k
    · refine .inl ⟨x.2.2, y.2, ?_, ?_, hq.2.2⟩
      · unfold valS
        rw [List.find?_cons_of_pos (by simp [e])] <;> rfl
      · unfold atKey
        rw [List.find?_cons_of_pos (by rw [hq.1, e]; simp)] <;> rfl
    · have e2 : ¬ y.1 = kSt k := fun z => e (kSt_inj (hq.1.symm.trans z))
      have h1 : ∀ r, valS (x :: r) k = valS r k := fun r => by
        unfold valS
        rw [List.find?_cons_of_neg (by simp [e])]
      have h2 : ∀ r, atKey (y :: r) (kSt k) = atKey r (kSt k) := fun r => by
        unfold atKey
        rw [List.find?_cons_of_neg (by simp [e2])]
      rw [h1, h2]
      exact at_val t
theorem room_in1 {P : Program} {w : World} {A : Around} (hu : A.units + 64 < cLine) : (nestedKind P w).room A.in1 := by
  show A.units + 1 + 8 < cLine
  omega
theorem paired_snoc {α β : Type} {R : α → β → Prop} {x : α} {y : β} (h : R x y) : ∀ {xs : List α} {ys : List β}, Paired R xs ys → Paired R (xs ++ [x]) (ys ++ [y])
  | _, _, .nil => .cons h .nil
  | _, _, .cons r t => .cons r (paired_snoc h t)
section
variable {X : Cx} {pins : List (Addr × Obj)} {o i value : Expr} {pos pos' : Pos} {td ty tv : TE}
/-- behind not in -/
def rNkNotIn (P : Program) (w : World) : R2 := fun x y H Q => ∃ d xs k b, x = .ref b ∧ y = .ref d ∧ H d = some (NkO P w d xs) ∧ NkKeys H xs ∧ StIs H k b ∧ Q (.bl (!(valS xs k).isSome)) H
theorem op_notIn_nk (hu : X.A.units + 64 < cLine) : OpR X (compareOp .NotIn) (rNkNotIn X.prog X.w) := by
  intro pins s σ H x y v u Q I rx ry h
  obtain ⟨d, xs, k, b, rfl, rfl, e, kk, hb, q⟩ := h
  cases rx
  cases ry
  obtain ⟨hd, _, ys, r, dd⟩ := nk_of I.hok e kk
  refine wpAny_notIn_heap (room_in1 hu) (st_is I.hok hb) hd dd ?_
  have es : (atKey ys (kSt k)).isSome = (valS xs k).isSome := by
    rcases at_val (k := k) r with ⟨v, p, e1, e2, _⟩ | ⟨e1, e2⟩
    · rw [e1, e2] <;> rfl
    · rw [e1, e2] <;> rfl
  rw [es]
  exact ⟨.bl _, H, I.tok _, rfl, q⟩
def tNkGet (P : Program) (w : World) (td ty : TE) : TE := fun σ H Q => td σ H fun x H1 => ty σ H1 fun y H2 => ∃ d xs k b v, x = .ref d ∧ y = .ref b ∧ H2 d = some (NkO P w d xs) ∧ NkKeys H2 xs ∧ StIs H2 k b ∧ valS xs k = some v ∧ Q v H2
theorem pe_nkget (hu : X.A.units + 64 < cLine) (ho : PE X o td) (hi : PE X i ty) (hs : NoSl i) : PE X (.Subscript o i pos) (tNkGet X.prog X.w td ty) := by
  refine ⟨fun pins s σ H Q I h => ?_⟩
  refine subD_of PySem.F.slot_dict_getitem.lookup hs (thn (ho.run pins s σ H _ I h) fun u s1 ⟨x, H1, I1, rx, q1⟩ => thn (hi.run pins s1 σ H1 _ I1 q1) fun iv s2 ⟨y, H2, I2, ry, d, xs, k, b, v, ex, ey, e, kk, hb, hv, q2⟩ => ?_)
  subst ex ey
  cases rx
  cases ry
  obtain ⟨hd, _, ys, r, dd⟩ := nk_of I2.hok e kk
  refine ⟨dd.typeIs, ?_⟩
  rcases at_val (k := k) r with ⟨v', p, e1, e2, rv⟩ | ⟨e1, e2⟩
  · rw [hv] at e1
    cases e1
    exact wpAny_getItem_heap (room_in1 hu) (st_is I2.hok hb) dd e2 ⟨v, H2, I2.tok _, rv, q2⟩
  · rw [hv] at e1
    cases e1
def sNkPut (P : Program) (w : World) (td ty tv : TE) : TS := fun D σ H => tv σ H fun v H1 => td σ H1 fun x H2 => ty σ H2 fun y H3 => ∃ d xs k b, x = .ref d ∧ y = .ref b ∧ H3 d = some (NkO P w d xs) ∧ NkKeys H3 xs ∧ StIs H3 k b ∧ valS xs k = none ∧ xs.length < sizeLine ∧
  D.nx σ (upd H3 d (NkO P w d (xs ++ [(k, b, v)])))
theorem ps_nkput (hu : X.A.units + 64 < cLine) (ho : PE X o td) (hi : PE X i ty) (hv : PE X value tv) (hs : swapsWith value (some (.Subscript o i pos')) pos.line X.env = pure false) :
    PS X (.Assign [.Subscript o i pos'] value pos) (sNkPut X.prog X.w td ty tv) := by
  refine ⟨fun pins s σ H D I h => ?_⟩
  refine wpAny_Assign_Subscript (thn (hv.run pins s σ H _ I h) fun r s1 ⟨v, H1, I1, rv, q1⟩ => thn (ho.run pins s1 σ H1 _ I1 q1) fun u s2 ⟨x, H2, I2, rx, q2⟩ => thn (hi.run pins s2 σ H2 _ I2 q2) fun iv s3 ⟨y, H3, I3, ry, d, xs, k, b, ex, ey, e, kk, hb, hn, hl, q3⟩ => ?_) hs
  subst ex ey
  cases rx
  cases ry
  obtain ⟨hd, _, ys, rr, dd⟩ := nk_of I3.hok e kk
  have hz : ys.length ≤ sizeLine := by rw [← Paired.length rr]; omega
  have e2 : atKey ys (kSt k) = none := by
    rcases at_val (k := k) rr with ⟨v', p, e1, e2, rv⟩ | ⟨e1, e2⟩
    · rw [hn] at e1
      cases e1
    · exact e2
  refine wpAny_setItem_heap (hsz := hz) (room_in1 hu) (st_is I3.hok hb) dd fun h' dd' hs => ?_
  rw [storedH_new e2] at dd'
  obtain ⟨q, es, ep, hq, h2, h3, h4, _, h5⟩ := dd'
  have new : NkP X.prog X.w d (xs ++ [(k, b, v)]) h' := ⟨hd, by rw [List.length_append, List.length_singleton]; omega, _, paired_snoc (R := NkR) (x := (k, b, v)) (y := (kSt k, b, r)) ⟨rfl, rfl, rv⟩ rr, q, es, ep, hq, h2, h3, h4, h5⟩
  exact ⟨σ, _, d_write I3 (by rw [e]; exact True.intro) hs ⟨q, hq⟩ new.ok, q3⟩
def tNkDisp (P : Program) (w : World) (tk tv : TE) : TE := fun σ H Q => ∀ p, H p = none → tk σ (upd H p (NkO P w p [])) fun x H1 => tv σ H1 fun y H2 => ∃ k b, x = .ref b ∧ H2 p = some (NkO P w p []) ∧ StIs H2 k b ∧ Q (.ref p) (upd H2 p (NkO P w p [(k, b, y)]))
theorem pe_nkdisp (hu : X.A.units + 64 < cLine) (hk : PE X i ty) (hv : PE X value tv) : PE X (.Dict [some i] [value] pos) (tNkDisp X.prog X.w ty tv) := by
  refine ⟨fun pins s σ H Q I h => ?_⟩
  have hn := I.hok.fresh (Nat.le_refl s.heap.objs.size)
  have e0 : (s.heap.objs.size == sysModules) = false := beq_eq_false_iff_ne.mpr (Ne.symm (Nat.ne_of_lt I.big))
  have n0 : NkP X.prog X.w s.heap.objs.size [] (s.heap.push { cls := .type "dict", data := .dict #[] }) := ⟨e0, Nat.zero_le _, [], .nil, _, #[], 0, Heap.get?_push_size _ rfl, ⟨rfl, rfl, rfl⟩, rfl, rfl, List.nodup_nil⟩
  have I1 := I.laid (a := s.heap.objs.size) (o := NkO X.prog X.w s.heap.objs.size []) (h' := s.heap.push { cls := .type "dict", data := .dict #[] }) (t' := s.toks) (fun _ _ q => Heap.get?_push_of_some _ q) (Nat.le_refl _) n0.ok
  rw [arm_eval_Dict, zip_pairTrees [some i] [value] X.env pos rfl rfl, dictDisplay_pairs (pairTrees [some i] [value] X.env pos) (by intro z; cases z) (by show 1 < 17; omega)]
  refine wpAny_bind (wpAny_standAt (wpAny_bind (wpAny_subDictH (knd := nestedKind X.prog X.w) (Q := fun d s' => wpAny (model X.prog X.w) X.A (pure (Value.ref d)) (EP X pins σ Q) X.xe s') (show X.A.units + 8 < cLine by omega) (by show 1 ≤ 15; omega) ?_)))
  refine pairTrees_cons_walk (thn (hk.run pins _ σ _ _ I1 (h _ hn)) fun u s1 ⟨x, H1, J1, rx, q1⟩ => thn (hv.run pins s1 σ H1 _ J1 q1) fun w2 s2 ⟨y, H2, J2, ry, k, b, ex, e2, hb, q2⟩ => pairTrees_nil_walk ?_)
  subst ex
  cases rx
  obtain ⟨hd, _, ys, rr, dd⟩ := nk_of J2.hok e2 (fun x hx => nomatch hx)
  cases rr
  refine ⟨[(kSt k, b, w2)], ⟨rfl, rfl, st_is J2.hok hb, True.intro⟩, dd, fun h' tk dk hs => wpAny_pure ?_⟩
  obtain ⟨q, es, ep, hq, h2, h3, h4, _, h5⟩ := dk
  have e4 : storedAllH ([] : List (NestedKey × Addr × Value)) [(kSt k, b, w2)] = [(kSt k, b, w2)] := rfl
  rw [e4] at h4 h5
  have new : NkP X.prog X.w s.heap.objs.size [(k, b, y)] h' := ⟨hd, by show 1 ≤ sizeLine; decide, [(kSt k, b, w2)], .cons ⟨rfl, rfl, ry⟩ .nil, q, es, ep, hq, h2, h3, h4, h5⟩
  exact ⟨.ref s.heap.objs.size, _, d_write J2 (by rw [e2]; exact True.intro) hs ⟨q, hq⟩ new.ok, rfl, q2⟩
end
end Fv
set_option Elab.async false
set_option linter.all false
set_option maxRecDepth 100000
set_option maxHeartbeats 4000000
/-! What stands on the heap, as plain data. -/
namespace Fv
open PySem PySem.Spec PyProof.Rows L2
/-- what a loop asks of the tuples: they stand -/
def TK (H H' : Hp) : Prop := ∀ a xs, H a = some (.tup xs) → H' a = some (.tup xs)
theorem TK.refl (H : Hp) : TK H H := fun _ _ h => h
theorem TK.trans {H H1 H2 : Hp} (a : TK H H1) (b : TK H1 H2) : TK H H2 := fun x o h => b x o (a x o h)
theorem _root_.L2.Same.tk {H H' : Hp} (s : Same H H') : TK H H' := fun a xs h => s a _ h
theorem _root_.L2.Same.new {H : Hp} {p : Addr} {o : HO} (h : H p = none) : Same H (upd H p o) := fun b x e => by
  rw [upd_ne (ne_of_none e h)]
  exact e
/-- an object that H does not know may change -/
theorem _root_.L2.Same.mut {H H' : Hp} {p : Addr} {o : HO} (e : Same H H') (h : H p = none) : Same H (upd H' p o) := fun a u ha => by
  rw [upd_ne (ne_of_none ha h)]
  exact e a u ha
theorem TK.upd {H : Hp} {p : Addr} {o u : HO} (h : H p = some u) (hu : ∀ xs, u ≠ .tup xs) : TK H (upd H p o) := fun a xs e => by
  rw [upd_ne (ne_of e h (fun z => hu xs z.symm))]
  exact e
theorem TK.lst {H : Hp} {p : Addr} {o : HO} {ys : List V} (h : H p = some (.lst ys)) : TK H (L2.upd H p o) := TK.upd h fun _ z => nomatch z
theorem TK.dT {H : Hp} {p : Addr} {o : HO} {ys : List (List Key × V)} (h : H p = some (.dT ys)) : TK H (L2.upd H p o) := TK.upd h fun _ z => nomatch z
theorem TK.new {H : Hp} {p : Addr} {o : HO} (h : H p = none) : TK H (L2.upd H p o) := (Same.new h).tk
/-- refs to tuples -/
abbrev Tups (H : Hp) : List V → List (List V) → Prop := Paired fun v c => ∃ a, v = .ref a ∧ H a = some (.tup c)
theorem Tups.mono {H H' : Hp} {xs : List V} {cs : List (List V)} (h : Tups H xs cs) (s : TK H H') : Tups H' xs cs := by
  induction h with
  | nil => exact .nil
  | cons r t ih =>
    obtain ⟨a, e, q⟩ := r
    exact .cons ⟨a, e, s _ _ q⟩ ih
theorem Tups.get : ∀ {H : Hp} {xs : List V} {cs : List (List V)} {i : Nat} {c : List V}, Tups H xs cs → cs[i]? = some c → ∃ a, xs[i]? = some (.ref a) ∧ H a = some (.tup c)
  | _, _, _, _, _, .nil, e => by simp at e
  | _, _, _, 0, _, .cons (a := x) ⟨a, e1, q⟩ _, e => by
    have e2 : _ = _ := Option.some.inj e
    subst e2
    subst e1
    exact ⟨a, rfl, q⟩
  | _, _, _, i + 1, _, .cons _ t, e => by
    obtain ⟨a, e1, q⟩ := Tups.get (i := i) t (by simpa using e)
    exact ⟨a, by simpa using e1, q⟩
theorem Tups.len {H : Hp} {xs : List V} {cs : List (List V)} (h : Tups H xs cs) : xs.length = cs.length := Paired.length h
theorem Tups.snoc {H : Hp} {xs : List V} {cs : List (List V)} {a : Addr} {c : List V} (h : Tups H xs cs) (e : H a = some (.tup c)) : Tups H (xs ++ [.ref a]) (cs ++ [c]) := paired_snoc ⟨a, rfl, e⟩ h
/-- the item behind i, of the refs -/
theorem Tups.getV {H : Hp} {xs : List V} {cs : List (List V)} {i : Nat} {v : V} (h : Tups H xs cs) (e : xs[i]? = some v) : ∃ a c, v = .ref a ∧ cs[i]? = some c ∧ H a = some (.tup c) := by
  have hl := h.len
  have hi : i < cs.length := by rw [← hl]; exact (List.getElem?_eq_some_iff.mp e).1
  obtain ⟨a, e1, q⟩ := h.get (List.getElem?_eq_getElem hi)
  rw [e] at e1
  cases e1
  exact ⟨a, _, rfl, List.getElem?_eq_getElem hi, q⟩
theorem take_more {α : Type} {l : List α} {i : Nat} {x : α} (h : l[i]? = some x) : l.take (i + 1) = l.take i ++ [x] := by
  rw [List.take_add_one, h]
  rfl
/-- a list of tuples -/
def TL (K : PySem.W.Frag) (H : Hp) (a : Addr) (cs : List (List V)) : Prop := ∃ xs, SqL K H a xs ∧ Tups H xs cs
theorem TL.mono {K : PySem.W.Frag} {H H' : Hp} {a : Addr} {cs : List (List V)} (h : TL K H a cs) (s : Same H H') : TL K H' a cs := by
  obtain ⟨xs, h1, h2⟩ := h
  exact ⟨xs, s.seq h1, h2.mono s.tk⟩
theorem sqt {K : PySem.W.Frag} {H : Hp} {a : Addr} {xs : List V} (h : H a = some (.tup xs)) : SqT K H a xs := .inl (.inl h)
theorem sql {K : PySem.W.Frag} {H : Hp} {a : Addr} {xs : List V} (h : H a = some (.lst xs)) : SqL K H a xs := .inl (.inl h)
theorem get_int {ns : List Int} {i : Nat} {v : V} (h : (ns.map V.int)[i]? = some v) : ∃ n, ns[i]? = some n ∧ v = .int n := by
  rw [List.getElem?_map] at h
  cases e : ns[i]? with
  | none =>
    rw [e] at h
    cases h
  | some n =>
    rw [e] at h
    exact ⟨n, rfl, (Option.some.inj h).symm⟩
theorem int_get {ns : List Int} {i : Nat} {n : Int} (h : ns[i]? = some n) : (ns.map V.int)[i]? = some (.int n) := by
  rw [List.getElem?_map, h]
  rfl
theorem sz {n : Nat} (h : n ≤ 100000) : n ≤ sizeLine := Nat.le_trans h (by decide)
theorem szl {n : Nat} (h : n < 100000) : n < sizeLine := Nat.lt_of_lt_of_le h (by decide)
/-- a note or a hole -/
def oV : Option Int → V
  | none => .non
  | some i => .int i
end Fv
set_option Elab.async false
set_option linter.all false
set_option maxRecDepth 100000
set_option maxHeartbeats 4000000
/-! Small defs. -/
namespace Fv
open PySem PySem.Spec PyProof.Rows L2
section
variable {P : Program} {w : World} {K : PySem.W.Frag} {mg : Str → Option Value} {base : Heap}
/-! ### _law_at -/
def atD (ns : List Int) (k : Nat) : Int := ns.getD k 0
def sp_law_at (K : PySem.W.Frag) : Sp := fun vs H Q _ => ∃ (a : Addr) (ns : List Int) (k : Nat), vs = [.ref a, .int k] ∧ SqL K H a (ns.map V.int) ∧ Q (.int (atD ns k)) H
theorem ok__law_at (T : Top K mg base) : DOk P w K mg base "_law_at" 1 ["_law_script", "_law_k"] (sp_law_at K) := by
  obtain ⟨fd, F⟩ := T.D__law_at
  refine ⟨fd, F.ok sc__law_at (fun vs H Q E h => ?_) (fun cdv A outer s H vs Q E hr h => ?_), F.bindsN fun _ _ _ _ _ _ us hl => match us, hl with | [_, _], _ => rfl, F.kp, T.g__law_at⟩
  · obtain ⟨a, ns, k, rfl, _⟩ := h
    rfl
  · obtain ⟨a, ns, k, rfl, hS, q⟩ := h
-- slots: 0 _law_script 1 _law_k
-- needs: 
    refine ⟨_, PSs.nox (pss_cons (ps_if (pt_cmpR op_lt (pv 1) (pe_callB call_len (by rfl) T.b_len PySem.boot_len (pa_cons (pv 0) pa_nil)) (nomark _))
        (pss_one (ps_ret (pe_ix ix_list (pv 0) (pv 1) (fun _ _ => rfl))))
        pss_nil)
      (pss_one (ps_ret pe_int))), ?_⟩
    refine ⟨_, rfl, _, rfl, _, (ns.map V.int).length, rfl, .inl ⟨_, hS, rfl⟩, _, _, rfl, rfl, _, rfl, ite2 (fun e => ?_) (fun e => ?_)⟩
    · have hk : k < ns.length := by
        have h1 := of_decide_eq_true e
        rw [List.length_map] at h1
        omega
      have g : ns[k]? = some (atD ns k) := by
        unfold atD
        rw [List.getD_eq_getElem?_getD, List.getElem?_eq_getElem hk] <;> rfl
      exact ⟨_, rfl, _, rfl, a, _, _, _, rfl, rfl, hS, atI_nat (int_get g), q⟩
    · have hk : ns.length ≤ k := by
        have h1 : ¬ ((k : Int) < ((ns.map V.int).length : Nat)) := fun z => e (decide_eq_true z)
        rw [List.length_map] at h1
        omega
      have g : atD ns k = 0 := by
        unfold atD
        rw [List.getD_eq_getElem?_getD, List.getElem?_eq_none hk] <;> rfl
      rw [g] at q
      exact q
/-! ### agrees, _law_agrees -/
abbrev iV (c : List Int) : List V := c.map V.int
abbrev gV (g : List (Option Int)) : List V := g.map oV
def agr : List Int → List (Option Int) → Bool
  | c :: cs, g :: gs => (match g with | none => true | some n => decide (n = c)) && agr cs gs
  | _, _ => true
theorem agr_of : ∀ {c : List Int} {g : List (Option Int)}, (∀ k n, g[k]? = some (some n) → k < c.length → c[k]? = some n) → agr c g = true
  | [], _, _ => by unfold agr; rfl
  | _ :: _, [], _ => by unfold agr; rfl
  | c :: cs, g :: gs, h => by
    have h1 : agr cs gs = true := agr_of fun k n e hk => by simpa using h (k + 1) n (by simpa using e) (by simpa using hk)
    unfold agr
    rw [h1, Bool.and_true]
    cases g with
    | none => rfl
    | some n =>
      have h2 := h 0 n (by simp) (by simp)
      have h3 : c = n := by simpa using h2
      exact decide_eq_true h3.symm
theorem agr_not : ∀ {c : List Int} {g : List (Option Int)} {k : Nat} {n m : Int}, g[k]? = some (some n) → c[k]? = some m → n ≠ m → agr c g = false
  | [], _, _, _, _, _, e, _ => by simp at e
  | _ :: _, [], _, _, _, e, _, _ => by simp at e
  | c :: cs, g :: gs, 0, n, m, e1, e2, h => by
    have e3 : g = some n := Option.some.inj e1
    have e4 : c = m := Option.some.inj e2
    subst e3 e4
    unfold agr
    show (decide (n = c) && agr cs gs) = false
    rw [decide_eq_false h, Bool.false_and]
  | c :: cs, g :: gs, k + 1, n, m, e1, e2, h => by
    have h1 : agr cs gs = false := agr_not (k := k) (by simpa using e1) (by simpa using e2) h
    unfold agr
    rw [h1, Bool.and_false]
def sp_agrees : Sp := fun vs H Q _ => ∃ (a b : Addr) (c : List Int) (g : List (Option Int)), vs = [.ref a, .ref b] ∧ H a = some (.tup (iV c)) ∧ H b = some (.tup (gV g)) ∧ g.length ≤ c.length ∧ c.length ≤ 10 ∧ Q (.bl (agr c g)) H
theorem ok_agrees (T : Top K mg base) : DOk P w K mg base "agrees" 1 ["column", "given"] sp_agrees := by
  obtain ⟨fd, F⟩ := T.D_agrees
  refine ⟨fd, F.ok sc_agrees (fun vs H Q E h => ?_) (fun cdv A outer s H vs Q E hr h => ?_), F.bindsN fun _ _ _ _ _ _ us hl => match us, hl with | [_, _], _ => rfl, F.kp, T.g_agrees⟩
  · obtain ⟨a, b, c, g, rfl, _⟩ := h
    rfl
  · obtain ⟨a, b, c, g, rfl, ha, hb, hl, hc, q⟩ := h
-- slots: 0 column 1 given 2 voice
-- needs: 
    refine ⟨_, PSs.nox (pss_cons (ps_for PassesOwn.never rfl (pi_range1 (by rfl) T.b_range (pa_cons (pe_callB call_len (by rfl) T.b_len PySem.boot_len (pa_cons (pv 1) pa_nil)) pa_nil)) (pg_name (i := 2) sc_agrees.nd rfl (by first | exact Or.inl rfl | exact Or.inr rfl))
        (pss_one (ps_if (PW.pt (pw_and (pt_cmpR op_notN (pe_ix ix_tup (pv 1) (pv 2) (fun _ _ => rfl)) pe_non (nomark _)) (pw_and1 (pt_cmpR op_ne (pe_ix ix_tup (pv 1) (pv 2) (fun _ _ => rfl)) (pe_ix ix_tup (pv 0) (pv 2) (fun _ _ => rfl)) (nomark _)))))
          (pss_one (ps_ret pe_bl))
          pss_nil)))
      (pss_one (ps_ret pe_bl))), ?_⟩
    have lg : (gV g).length = g.length := List.length_map ..
    refine ⟨_, rfl, _, (gV g).length, rfl, .inr ⟨_, sqt hb, rfl⟩, ((gV g).length : Nat), rfl, by omega, by omega, for_range (lo := 0) (n := (gV g).length) (fun i σ H' => (∃ v, σ = [some (.ref a), some (.ref b), v]) ∧ H' = H ∧ ∀ k n, k < i → g[k]? = some (some n) → c[k]? = some n)
      ⟨⟨_, rfl⟩, rfl, fun k n h _ => absurd h (Nat.not_lt_zero _)⟩ ?_ ?_⟩
    · rintro i σ H' hi ⟨⟨v, rfl⟩, rfl, hk⟩
      have hig : i < g.length := by omega
      have hic : i < c.length := by omega
      have eg : (gV g)[i]? = some (oV g[i]) := by rw [List.getElem?_map, List.getElem?_eq_getElem hig]; rfl
      have ec : (iV c)[i]? = some (.int c[i]) := int_get (List.getElem?_eq_getElem hic)
      have ei : (0 : Int) + (i : Nat) = (i : Nat) := by omega
      refine ⟨_, rfl, _, rfl, b, _, _, _, rfl, rfl, sqt hb, at_of ei eg, rfl, _, rfl, ?_⟩
      cases q1 : g[i] with
      | none =>
        refine iteNS rfl (iteF ⟨⟨_, rfl⟩, rfl, fun k n h e => ?_⟩)
        by_cases e2 : k = i
        · subst e2
          rw [List.getElem?_eq_getElem hig, q1] at e
          cases e
        · exact hk k n (by omega) e
      | some n =>
        refine iteT ?_
        refine ⟨_, rfl, _, rfl, b, _, _, _, rfl, rfl, sqt hb, at_of ei eg, _, rfl, _, rfl, a, _, _, _, rfl, rfl, sqt ha, at_of ei ec, ?_⟩
        rw [q1]
        refine ⟨rfl, _, rfl, ?_⟩
        by_cases e2 : n = c[i]
        · refine iteNS (by show V.int n = V.int c[i]; rw [e2]) ⟨⟨_, rfl⟩, rfl, fun k m h e => ?_⟩
          by_cases e3 : k = i
          · subst e3
            rw [List.getElem?_eq_getElem hig, q1] at e
            cases e
            rw [List.getElem?_eq_getElem hic, e2]
          · exact hk k m (by omega) e
        · have e4 : decide (V.int n = V.int c[i]) = false := decide_eq_false fun z => e2 (V.int.inj z)
          show (if (!decide (oV (some n) = V.int c[i])) = true then _ else _)
          rw [show decide (oV (some n) = V.int c[i]) = false from e4]
          refine iteT ?_
          have e5 : agr c g = false := agr_not (k := i) (n := n) (m := c[i]) (by rw [List.getElem?_eq_getElem hig, q1]) (List.getElem?_eq_getElem hic) e2
          rw [e5] at q
          exact q
    · rintro σ H' ⟨⟨v, rfl⟩, rfl, hk⟩
      have e5 : agr c g = true := agr_of fun k n e hc => hk k n (by rw [lg]; exact (List.getElem?_eq_some_iff.mp e).1) e
      rw [e5] at q
      exact q
theorem ok__law_agrees (T : Top K mg base) : DOk P w K mg base "_law_agrees" 1 ["_law_column", "_law_given"] sp_agrees := by
  obtain ⟨fd, F⟩ := T.D__law_agrees
  refine ⟨fd, F.ok sc__law_agrees (fun vs H Q E h => ?_) (fun cdv A outer s H vs Q E hr h => ?_), F.bindsN fun _ _ _ _ _ _ us hl => match us, hl with | [_, _], _ => rfl, F.kp, T.g__law_agrees⟩
  · obtain ⟨a, b, c, g, rfl, _⟩ := h
    rfl
  · obtain ⟨a, b, c, g, rfl, ha, hb, hl, hc, q⟩ := h
-- slots: 0 _law_column 1 _law_given 2 _law_k
-- needs: 
    refine ⟨_, PSs.nox (pss_cons (ps_for PassesOwn.never rfl (pi_range1 (by rfl) T.b_range (pa_cons (pe_callB call_len (by rfl) T.b_len PySem.boot_len (pa_cons (pv 1) pa_nil)) pa_nil)) (pg_name (i := 2) sc__law_agrees.nd rfl (by first | exact Or.inl rfl | exact Or.inr rfl))
        (pss_one (ps_if (PW.pt (pw_and (pt_cmpR op_notN (pe_ix ix_tup (pv 1) (pv 2) (fun _ _ => rfl)) pe_non (nomark _)) (pw_and1 (pt_cmpR op_ne (pe_ix ix_tup (pv 1) (pv 2) (fun _ _ => rfl)) (pe_ix ix_tup (pv 0) (pv 2) (fun _ _ => rfl)) (nomark _)))))
          (pss_one (ps_ret pe_bl))
          pss_nil)))
      (pss_one (ps_ret pe_bl))), ?_⟩
    have lg : (gV g).length = g.length := List.length_map ..
    refine ⟨_, rfl, _, (gV g).length, rfl, .inr ⟨_, sqt hb, rfl⟩, ((gV g).length : Nat), rfl, by omega, by omega, for_range (lo := 0) (n := (gV g).length) (fun i σ H' => (∃ v, σ = [some (.ref a), some (.ref b), v]) ∧ H' = H ∧ ∀ k n, k < i → g[k]? = some (some n) → c[k]? = some n)
      ⟨⟨_, rfl⟩, rfl, fun k n h _ => absurd h (Nat.not_lt_zero _)⟩ ?_ ?_⟩
    · rintro i σ H' hi ⟨⟨v, rfl⟩, rfl, hk⟩
      have hig : i < g.length := by omega
      have hic : i < c.length := by omega
      have eg : (gV g)[i]? = some (oV g[i]) := by rw [List.getElem?_map, List.getElem?_eq_getElem hig]; rfl
      have ec : (iV c)[i]? = some (.int c[i]) := int_get (List.getElem?_eq_getElem hic)
      have ei : (0 : Int) + (i : Nat) = (i : Nat) := by omega
      refine ⟨_, rfl, _, rfl, b, _, _, _, rfl, rfl, sqt hb, at_of ei eg, rfl, _, rfl, ?_⟩
      cases q1 : g[i] with
      | none =>
        refine iteNS rfl (iteF ⟨⟨_, rfl⟩, rfl, fun k n h e => ?_⟩)
        by_cases e2 : k = i
        · subst e2
          rw [List.getElem?_eq_getElem hig, q1] at e
          cases e
        · exact hk k n (by omega) e
      | some n =>
        refine iteT ?_
        refine ⟨_, rfl, _, rfl, b, _, _, _, rfl, rfl, sqt hb, at_of ei eg, _, rfl, _, rfl, a, _, _, _, rfl, rfl, sqt ha, at_of ei ec, ?_⟩
        rw [q1]
        refine ⟨rfl, _, rfl, ?_⟩
        by_cases e2 : n = c[i]
        · refine iteNS (by show V.int n = V.int c[i]; rw [e2]) ⟨⟨_, rfl⟩, rfl, fun k m h e => ?_⟩
          by_cases e3 : k = i
          · subst e3
            rw [List.getElem?_eq_getElem hig, q1] at e
            cases e
            rw [List.getElem?_eq_getElem hic, e2]
          · exact hk k m (by omega) e
        · have e4 : decide (V.int n = V.int c[i]) = false := decide_eq_false fun z => e2 (V.int.inj z)
          show (if (!decide (oV (some n) = V.int c[i])) = true then _ else _)
          rw [show decide (oV (some n) = V.int c[i]) = false from e4]
          refine iteT ?_
          have e5 : agr c g = false := agr_not (k := i) (n := n) (m := c[i]) (by rw [List.getElem?_eq_getElem hig, q1]) (List.getElem?_eq_getElem hic) e2
          rw [e5] at q
          exact q
    · rintro σ H' ⟨⟨v, rfl⟩, rfl, hk⟩
      have e5 : agr c g = true := agr_of fun k n e hc => hk k n (by rw [lg]; exact (List.getElem?_eq_some_iff.mp e).1) e
      rw [e5] at q
      exact q
end
end Fv
set_option Elab.async false
set_option linter.all false
set_option maxRecDepth 100000
set_option maxHeartbeats 4000000
/-! The columns. -/
namespace Fv
open PySem PySem.Spec PyProof.Rows L2
abbrev Rng := List (Int × Int)
def rV (rs : Rng) : List (List V) := rs.map fun r => [V.int r.1, V.int r.2]
def cV (cs : List (List Int)) : List (List V) := cs.map iV
def colF (r : Int × Int) (c : List Int) : List (List Int) := (List.range (r.2 + 1 - r.1).toNat).map fun k => c ++ [r.1 + (k : Nat)]
def colStep (acc : List (List Int)) (r : Int × Int) : List (List Int) := acc.flatMap (colF r)
def cols (rs : Rng) : List (List Int) := rs.foldl colStep [[]]
theorem colF_len (r : Int × Int) (c : List Int) : (colF r c).length = (r.2 + 1 - r.1).toNat := by
  unfold colF
  rw [List.length_map, List.length_range]
theorem colF_at (r : Int × Int) (c : List Int) {k : Nat} (h : k < (r.2 + 1 - r.1).toNat) : (colF r c)[k]? = some (c ++ [r.1 + (k : Nat)]) := by
  unfold colF
  rw [List.getElem?_map, List.getElem?_range h]
  rfl
theorem cols_snoc {rs : Rng} {i : Nat} {r : Int × Int} (h : rs[i]? = some r) : cols (rs.take (i + 1)) = colStep (cols (rs.take i)) r := by
  unfold cols
  rw [take_more h, List.foldl_append]
  rfl
theorem flat_take {α β : Type} {f : α → List β} {l : List α} {j : Nat} {c : α} (h : l[j]? = some c) : (l.take (j + 1)).flatMap f = (l.take j).flatMap f ++ f c := by
  rw [take_more h, List.flatMap_append]
  simp
theorem flat_le {α β : Type} {f : α → List β} {l : List α} {j k : Nat} {c : α} (h : l[j]? = some c) (hk : k ≤ (f c).length) : ((l.take j).flatMap f ++ (f c).take k).length ≤ (l.flatMap f).length := by
  have e1 : l = l.take (j + 1) ++ l.drop (j + 1) := (List.take_append_drop ..).symm
  have e2 : (l.flatMap f).length = ((l.take (j + 1)).flatMap f).length + ((l.drop (j + 1)).flatMap f).length := by
    rw [← List.length_append, ← List.flatMap_append, ← e1]
  rw [e2, flat_take h, List.length_append, List.length_append, List.length_take]
  omega
theorem col_all {rs : Rng} : ∀ (acc : List (List Int)) (n : Nat), (∀ c ∈ acc, c.length = n) → ∀ c ∈ rs.foldl colStep acc, c.length = n + rs.length := by
  induction rs with
  | nil => exact fun acc n h c hc => h c hc
  | cons r rs ih =>
    intro acc n h c hc
    have h2 : ∀ c ∈ colStep acc r, c.length = n + 1 := by
      intro c hc
      obtain ⟨d, hd, hc⟩ := List.mem_flatMap.mp hc
      unfold colF at hc
      obtain ⟨k, _, e⟩ := List.mem_map.mp hc
      rw [← e, List.length_append, h d hd]
      rfl
    have h3 := ih (colStep acc r) (n + 1) h2 c hc
    rw [h3, List.length_cons]
    omega
theorem cols_len {rs : Rng} {c : List Int} (h : c ∈ cols rs) : c.length = rs.length := by
  have := col_all (rs := rs) [[]] 0 (fun c hc => by rw [List.mem_singleton.mp hc]; rfl) c h
  omega
/-- a score's ranges -/
def ScR (K : PySem.W.Frag) (H : Hp) (s : Addr) (rs : Rng) : Prop := ∃ dx fs ra, H s = some (.ins (He.ga K "Score") dx fs) ∧ fs.lookup ("ranges" : Str) = some (.ref ra) ∧ TL K H ra (rV rs)
theorem ScR.mono {K : PySem.W.Frag} {H H' : Hp} {s : Addr} {rs : Rng} (h : ScR K H s rs) (sm : Same H H') : ScR K H' s rs := by
  obtain ⟨dx, fs, ra, e1, e2, e3⟩ := h
  exact ⟨dx, fs, ra, sm _ _ e1, e2, e3.mono sm⟩
/-- a new list of tuples -/
def NewT (H H' : Hp) (p : Addr) (cs : List (List V)) : Prop := Same H H' ∧ H p = none ∧ ∃ xs, H' p = some (.lst xs) ∧ Tups H' xs cs
theorem NewT.tl {K : PySem.W.Frag} {H H' : Hp} {p : Addr} {cs : List (List V)} (h : NewT H H' p cs) : TL K H' p cs := by
  obtain ⟨_, _, xs, e, t⟩ := h
  exact ⟨xs, sql e, t⟩
def Small (rs : Rng) : Prop := rs.length ≤ 100 ∧ ∀ i, (cols (rs.take i)).length ≤ 1000
section
variable {P : Program} {w : World} {K : PySem.W.Frag} {mg : Str → Option Value} {base : Heap}
def spQ_cols (rs : Rng) (H : Hp) (Q : VK) : Prop := ∀ p H', NewT H H' p (cV (cols rs)) → Q (.ref p) H'
def sp_law_columns (K : PySem.W.Frag) : Sp := fun vs H Q _ => ∃ (a : Addr) (rs : Rng), vs = [.ref a] ∧ TL K H a (rV rs) ∧ Small rs ∧ spQ_cols rs H Q
def sp_columns (K : PySem.W.Frag) : Sp := fun vs H Q _ => ∃ (a : Addr) (rs : Rng), vs = [.ref a] ∧ ScR K H a rs ∧ Small rs ∧ spQ_cols rs H Q
theorem ok__law_columns (T : Top K mg base) : DOk P w K mg base "_law_columns" 1 ["_law_ranges_here"] (sp_law_columns K) := by
  obtain ⟨fd, F⟩ := T.D__law_columns
  refine ⟨fd, F.ok sc__law_columns (fun vs H Q E h => ?_) (fun cdv A outer s H vs Q E hr h => ?_), F.bindsN fun _ _ _ _ _ _ us hl => match us, hl with | [_], _ => rfl, F.kp, T.g__law_columns⟩
  · obtain ⟨a, rs, rfl, _⟩ := h
    rfl
  · obtain ⟨a, rs, rfl, hR, hs, q⟩ := h
-- slots: 0 _law_ranges_here 1 _law_found 2 _law_low 3 _law_high 4 _law_longer 5 _law_column 6 _law_note
-- needs: 
    refine ⟨_, PSs.nox (pss_cons (ps_set (i := 1) sc__law_columns.nd rfl (by first | exact Or.inl rfl | exact Or.inr rfl) (pe_lst (pa_cons (pe_tup pa_nil) pa_nil)))
      (pss_cons (ps_for PassesOwn.never rfl (pi_list (pv 0)) (pg_tup rfl (pgs_cons (pg_name (i := 2) sc__law_columns.nd rfl (by first | exact Or.inl rfl | exact Or.inr rfl)) (pgs_cons (pg_name (i := 3) sc__law_columns.nd rfl (by first | exact Or.inl rfl | exact Or.inr rfl)) pgs_nil)))
        (pss_cons (ps_set (i := 4) sc__law_columns.nd rfl (by first | exact Or.inl rfl | exact Or.inr rfl) (pe_lst pa_nil))
        (pss_cons (ps_for PassesOwn.never rfl (pi_list (pv 1)) (pg_name (i := 5) sc__law_columns.nd rfl (by first | exact Or.inl rfl | exact Or.inr rfl))
          (pss_one (ps_for PassesOwn.never rfl (pi_rangeW (by rfl) T.b_range (pa_cons (pv 2) (pa_cons (pe_op op_add (pv 3) pe_int) pa_nil))) (pg_name (i := 6) sc__law_columns.nd rfl (by first | exact Or.inl rfl | exact Or.inr rfl))
            (pss_one (ps_expr (pe_bm PySem.F.plainAttrs_list PySem.F.slot_list_append PySem.F.type_list_append mt_append (pv 4) (pa_cons (pe_op op_catA (pv 5) (pe_tup (pa_cons (pv 6) pa_nil))) pa_nil)))))))
        (pss_one (ps_set (i := 1) sc__law_columns.nd rfl (by first | exact Or.inl rfl | exact Or.inr rfl) (pv 4))))))
      (pss_one (ps_ret (pv 1))))), ?_⟩
    -- found = [()]
    refine ⟨Nat.zero_le _, fun t0 nt0 => ⟨by show 1 ≤ sizeLine; decide, fun f0 nf0 => ?_⟩⟩
    have S1 : Same H (upd H t0 (.tup [])) := Same.new nt0
    have S2 : Same H (upd (upd H t0 (.tup [])) f0 (.lst [.ref t0])) := S1.trans (Same.new nf0)
    obtain ⟨rxs, hrl, hrr⟩ := hR
    -- for low, high in ranges
    refine ⟨_, rfl, a, rfl, ⟨_, S2.seq hrl⟩, ?_⟩
    have lr : (rV rs).length = rs.length := List.length_map ..
    refine for_list (K := K) (a := a) (xs := rxs) (fun i σ H' => ∃ (f : Addr) (x2 x3 x4 x5 x6 : Option V), σ = [some (.ref a), some (.ref f), x2, x3, x4, x5, x6] ∧ NewT H H' f (cV (cols (rs.take i))))
      ⟨f0, none, none, none, none, none, rfl, S2, S1.free nf0, [.ref t0], upd_same, .cons ⟨t0, rfl, (Same.new nf0) _ _ upd_same⟩ .nil⟩ (fun i σ H' _ ⟨_, _, _, _, _, _, _, N⟩ => N.1.seq hrl) ?_ ?_
    · rintro i v σ H' hv ⟨f, x2, x3, x4, x5, x6, rfl, N⟩
      obtain ⟨rt, rc, rfl, hrc, hrt⟩ := (hrr.mono N.1.tk).getV hv
      obtain ⟨⟨lo, hi⟩, hri, rfl⟩ : ∃ r, rs[i]? = some r ∧ rc = [V.int r.1, V.int r.2] := by
        unfold rV at hrc
        rw [List.getElem?_map] at hrc
        cases e : rs[i]? with
        | none => rw [e] at hrc; cases hrc
        | some r => rw [e] at hrc; exact ⟨r, rfl, (Option.some.inj hrc).symm⟩
      -- low, high = the range; longer = []
      refine ⟨rt, _, rfl, sqt hrt, rfl, _, _, rfl, _, _, rfl, rfl, Nat.zero_le _, fun p np => ?_⟩
      obtain ⟨SH, nf, fx, hf, tf⟩ := N
      have hpf : f ≠ p := ne_of_none hf np
      have lf : fx.length = (cols (rs.take i)).length := by rw [tf.len]; exact List.length_map ..
      have hst : (colStep (cols (rs.take i)) (lo, hi)).length ≤ 1000 := by rw [← cols_snoc hri]; exact hs.2 (i + 1)
      -- for column in found
      refine ⟨_, rfl, f, rfl, ⟨_, sql ((Same.new np) _ _ hf)⟩, for_list (K := K) (a := f) (xs := fx) (fun j σ' H'' => ∃ (y5 y6 : Option V) (ys : List V), σ' = [some (.ref a), some (.ref f), some (.int lo), some (.int hi), some (.ref p), y5, y6] ∧ Same H' H'' ∧ H'' p = some (.lst ys) ∧
          Tups H'' ys (cV (((cols (rs.take i)).take j).flatMap (colF (lo, hi)))))
        ⟨_, _, [], rfl, Same.new np, upd_same, .nil⟩ (fun j σ' H'' _ ⟨_, _, _, _, s, _⟩ => sql (s _ _ hf)) ?_ ?_⟩
      · rintro j v' σ' H'' hv' ⟨y5, y6, ys, rfl, SJ, hp, tp⟩
        obtain ⟨ca, cc, rfl, hcc, hca⟩ := (tf.mono SJ.tk).getV hv'
        obtain ⟨c, hcj, rfl⟩ : ∃ c, (cols (rs.take i))[j]? = some c ∧ cc = iV c := by
          unfold cV at hcc
          rw [List.getElem?_map] at hcc
          cases e : (cols (rs.take i))[j]? with
          | none => rw [e] at hcc; cases hcc
          | some c => rw [e] at hcc; exact ⟨c, rfl, (Option.some.inj hcc).symm⟩
        -- for note in range(low, high + 1)
        refine ⟨_, rfl, _, rfl, _, _, rfl, rfl, lo, hi + 1, rfl, for_range (lo := lo) (n := (hi + 1 - lo).toNat) (fun k σ2 H2 => ∃ (z6 : Option V) (zs : List V), σ2 = [some (.ref a), some (.ref f), some (.int lo), some (.int hi), some (.ref p), some (.ref ca), z6] ∧ Same H' H2 ∧ TK H'' H2 ∧ H2 p = some (.lst zs) ∧
            Tups H2 zs (cV (((cols (rs.take i)).take j).flatMap (colF (lo, hi)) ++ (colF (lo, hi) c).take k)))
          ⟨_, ys, rfl, SJ, TK.refl _, hp, by rw [List.take_zero, List.append_nil]; exact tp⟩ ?_ ?_⟩
        · rintro k σ2 H2 hk ⟨z6, zs, rfl, SK2, TK2, hp2, tp2⟩
          have hca2 : H2 ca = some (.tup (iV c)) := TK2 _ _ hca
          have hle : (((cols (rs.take i)).take j).flatMap (colF (lo, hi)) ++ (colF (lo, hi) c).take k).length ≤ 1000 := Nat.le_trans (flat_le hcj (by rw [colF_len]; exact Nat.le_of_lt hk)) hst
          have lz : zs.length ≤ 1000 := by rw [tp2.len]; unfold cV; rw [List.length_map]; exact hle
          have hnext : ((colF (lo, hi) c).take (k + 1)) = (colF (lo, hi) c).take k ++ [c ++ [lo + (k : Nat)]] := take_more (colF_at (lo, hi) c hk)
          -- the step, whatever the new tuple's address
          have fin : ∀ (b : Addr) (H3 : Hp), Same H2 H3 → H3 b = some (.tup (iV (c ++ [lo + (k : Nat)]))) → ∃ l, ∃ xs x, V.ref p = .ref l ∧ [V.ref b] = [x] ∧ H3 l = some (.lst xs) ∧ xs.length < sizeLine ∧
              ∃ (z6 : Option V) (zs : List V), ([some (.ref a), some (.ref f), some (.int lo), some (.int hi), some (.ref p), some (.ref ca), some (.int (lo + (k : Nat)))] : List (Option V)) = [some (.ref a), some (.ref f), some (.int lo), some (.int hi), some (.ref p), some (.ref ca), z6] ∧ Same H' (upd H3 l (.lst (xs ++ [x]))) ∧ TK H'' (upd H3 l (.lst (xs ++ [x]))) ∧ (upd H3 l (.lst (xs ++ [x]))) p = some (.lst zs) ∧
              Tups (upd H3 l (.lst (xs ++ [x]))) zs (cV (((cols (rs.take i)).take j).flatMap (colF (lo, hi)) ++ (colF (lo, hi) c).take (k + 1))) := by
            intro b H3 S3 hb
            have hp3 : H3 p = some (.lst zs) := S3 _ _ hp2
            refine ⟨p, zs, .ref b, rfl, rfl, hp3, szl (by omega), _, zs ++ [.ref b], rfl, (SK2.trans S3).mut np, (TK2.trans S3.tk).trans (TK.lst hp3), upd_same, ?_⟩
            rw [hnext, ← List.append_assoc]
            unfold cV
            rw [List.map_append]
            exact ((tp2.mono S3.tk).mono (TK.lst hp3)).snoc (TK.lst hp3 _ _ hb)
          refine ⟨_, rfl, .inl ⟨rfl, _, sql hp2⟩, _, rfl, _, rfl, by show 1 ≤ sizeLine; decide, fun b nb => ?_⟩
          have S3 : Same H2 (upd H2 b (.tup [V.int (lo + (k : Nat))])) := Same.new nb
          refine ⟨ca, b, iV c, [V.int (lo + (k : Nat))], rfl, rfl, sqt (S3 _ _ hca2), sqt upd_same, ?_, fun e0 => ?_, fun e0 e1 => (nomatch e1), fun e0 e1 d nd => ?_⟩
          · refine sz ?_
            show (iV c).length + 1 ≤ 100000
            rw [List.length_map]
            have h9 := cols_len (List.mem_of_getElem? hcj)
            rw [List.length_take] at h9
            have := hs.1
            omega
          · have e2 : c = [] := List.map_eq_nil_iff.mp e0
            exact fin b _ S3 (by rw [e2]; exact upd_same)
          · refine fin d _ (S3.trans (Same.new nd)) ?_
            rw [upd_same]
            unfold iV
            rw [List.map_append]
            rfl
        · rintro σ2 H2 ⟨z6, zs, rfl, SK2, TK2, hp2, tp2⟩
          refine ⟨_, _, zs, rfl, SK2, hp2, ?_⟩
          rw [flat_take hcj]
          have et : (colF (lo, hi) c).take (hi + 1 - lo).toNat = colF (lo, hi) c := List.take_of_length_le (by rw [colF_len]; exact Nat.le_refl _)
          rw [et] at tp2
          exact tp2
      · rintro σ' H'' ⟨y5, y6, ys, rfl, SJ, hp, tp⟩
        refine ⟨_, rfl, p, _, _, _, _, _, rfl, SH.trans SJ, SH.free np, ys, hp, ?_⟩
        rw [cols_snoc hri]
        rw [lf, List.take_length] at tp
        exact tp
    · rintro σ H' ⟨f, x2, x3, x4, x5, x6, rfl, N⟩
      rw [hrr.len, lr, List.take_length] at N
      exact ⟨_, rfl, q f H' N⟩
theorem ok_columns (T : Top K mg base) : DOk P w K mg base "columns" 1 ["score"] (sp_columns K) := by
  obtain ⟨fd, F⟩ := T.D_columns
  refine ⟨fd, F.ok sc_columns (fun vs H Q E h => ?_) (fun cdv A outer s H vs Q E hr h => ?_), F.bindsN fun _ _ _ _ _ _ us hl => match us, hl with | [_], _ => rfl, F.kp, T.g_columns⟩
  · obtain ⟨a, rs, rfl, _⟩ := h
    rfl
  · obtain ⟨a, rs, rfl, hR, hs, q⟩ := h
-- slots: 0 score 1 found 2 low 3 high 4 longer 5 column 6 note
-- needs: 
    refine ⟨_, PSs.nox (pss_cons (ps_set (i := 1) sc_columns.nd rfl (by first | exact Or.inl rfl | exact Or.inr rfl) (pe_lst (pa_cons (pe_tup pa_nil) pa_nil)))
      (pss_cons (ps_for PassesOwn.never rfl (pi_list (pe_fld (pv 0) rfl)) (pg_tup rfl (pgs_cons (pg_name (i := 2) sc_columns.nd rfl (by first | exact Or.inl rfl | exact Or.inr rfl)) (pgs_cons (pg_name (i := 3) sc_columns.nd rfl (by first | exact Or.inl rfl | exact Or.inr rfl)) pgs_nil)))
        (pss_cons (ps_set (i := 4) sc_columns.nd rfl (by first | exact Or.inl rfl | exact Or.inr rfl) (pe_lst pa_nil))
        (pss_cons (ps_for PassesOwn.never rfl (pi_list (pv 1)) (pg_name (i := 5) sc_columns.nd rfl (by first | exact Or.inl rfl | exact Or.inr rfl))
          (pss_one (ps_for PassesOwn.never rfl (pi_rangeW (by rfl) T.b_range (pa_cons (pv 2) (pa_cons (pe_op op_add (pv 3) pe_int) pa_nil))) (pg_name (i := 6) sc_columns.nd rfl (by first | exact Or.inl rfl | exact Or.inr rfl))
            (pss_one (ps_expr (pe_bm PySem.F.plainAttrs_list PySem.F.slot_list_append PySem.F.type_list_append mt_append (pv 4) (pa_cons (pe_op op_catA (pv 5) (pe_tup (pa_cons (pv 6) pa_nil))) pa_nil)))))))
        (pss_one (ps_set (i := 1) sc_columns.nd rfl (by first | exact Or.inl rfl | exact Or.inr rfl) (pv 4))))))
      (pss_one (ps_ret (pv 1))))), ?_⟩
    -- found = [()]
    refine ⟨Nat.zero_le _, fun t0 nt0 => ⟨by show 1 ≤ sizeLine; decide, fun f0 nf0 => ?_⟩⟩
    have S1 : Same H (upd H t0 (.tup [])) := Same.new nt0
    have S2 : Same H (upd (upd H t0 (.tup [])) f0 (.lst [.ref t0])) := S1.trans (Same.new nf0)
    obtain ⟨dx, fs, ra, hins, hlk, rxs, hrl, hrr⟩ := hR
    -- for low, high in score.ranges
    refine ⟨_, rfl, a, _, dx, fs, _, rfl, S2 _ _ hins, T.c_Score, T.n_Score_ranges, hlk, ra, rfl, ⟨_, S2.seq hrl⟩, ?_⟩
    have lr : (rV rs).length = rs.length := List.length_map ..
    refine for_list (K := K) (a := ra) (xs := rxs) (fun i σ H' => ∃ (f : Addr) (x2 x3 x4 x5 x6 : Option V), σ = [some (.ref a), some (.ref f), x2, x3, x4, x5, x6] ∧ NewT H H' f (cV (cols (rs.take i))))
      ⟨f0, none, none, none, none, none, rfl, S2, S1.free nf0, [.ref t0], upd_same, .cons ⟨t0, rfl, (Same.new nf0) _ _ upd_same⟩ .nil⟩ (fun i σ H' _ ⟨_, _, _, _, _, _, _, N⟩ => N.1.seq hrl) ?_ ?_
    · rintro i v σ H' hv ⟨f, x2, x3, x4, x5, x6, rfl, N⟩
      obtain ⟨rt, rc, rfl, hrc, hrt⟩ := (hrr.mono N.1.tk).getV hv
      obtain ⟨⟨lo, hi⟩, hri, rfl⟩ : ∃ r, rs[i]? = some r ∧ rc = [V.int r.1, V.int r.2] := by
        unfold rV at hrc
        rw [List.getElem?_map] at hrc
        cases e : rs[i]? with
        | none => rw [e] at hrc; cases hrc
        | some r => rw [e] at hrc; exact ⟨r, rfl, (Option.some.inj hrc).symm⟩
      -- low, high = the range; longer = []
      refine ⟨rt, _, rfl, sqt hrt, rfl, _, _, rfl, _, _, rfl, rfl, Nat.zero_le _, fun p np => ?_⟩
      obtain ⟨SH, nf, fx, hf, tf⟩ := N
      have hpf : f ≠ p := ne_of_none hf np
      have lf : fx.length = (cols (rs.take i)).length := by rw [tf.len]; exact List.length_map ..
      have hst : (colStep (cols (rs.take i)) (lo, hi)).length ≤ 1000 := by rw [← cols_snoc hri]; exact hs.2 (i + 1)
      -- for column in found
      refine ⟨_, rfl, f, rfl, ⟨_, sql ((Same.new np) _ _ hf)⟩, for_list (K := K) (a := f) (xs := fx) (fun j σ' H'' => ∃ (y5 y6 : Option V) (ys : List V), σ' = [some (.ref a), some (.ref f), some (.int lo), some (.int hi), some (.ref p), y5, y6] ∧ Same H' H'' ∧ H'' p = some (.lst ys) ∧
          Tups H'' ys (cV (((cols (rs.take i)).take j).flatMap (colF (lo, hi)))))
        ⟨_, _, [], rfl, Same.new np, upd_same, .nil⟩ (fun j σ' H'' _ ⟨_, _, _, _, s, _⟩ => sql (s _ _ hf)) ?_ ?_⟩
      · rintro j v' σ' H'' hv' ⟨y5, y6, ys, rfl, SJ, hp, tp⟩
        obtain ⟨ca, cc, rfl, hcc, hca⟩ := (tf.mono SJ.tk).getV hv'
        obtain ⟨c, hcj, rfl⟩ : ∃ c, (cols (rs.take i))[j]? = some c ∧ cc = iV c := by
          unfold cV at hcc
          rw [List.getElem?_map] at hcc
          cases e : (cols (rs.take i))[j]? with
          | none => rw [e] at hcc; cases hcc
          | some c => rw [e] at hcc; exact ⟨c, rfl, (Option.some.inj hcc).symm⟩
        -- for note in range(low, high + 1)
        refine ⟨_, rfl, _, rfl, _, _, rfl, rfl, lo, hi + 1, rfl, for_range (lo := lo) (n := (hi + 1 - lo).toNat) (fun k σ2 H2 => ∃ (z6 : Option V) (zs : List V), σ2 = [some (.ref a), some (.ref f), some (.int lo), some (.int hi), some (.ref p), some (.ref ca), z6] ∧ Same H' H2 ∧ TK H'' H2 ∧ H2 p = some (.lst zs) ∧
            Tups H2 zs (cV (((cols (rs.take i)).take j).flatMap (colF (lo, hi)) ++ (colF (lo, hi) c).take k)))
          ⟨_, ys, rfl, SJ, TK.refl _, hp, by rw [List.take_zero, List.append_nil]; exact tp⟩ ?_ ?_⟩
        · rintro k σ2 H2 hk ⟨z6, zs, rfl, SK2, TK2, hp2, tp2⟩
          have hca2 : H2 ca = some (.tup (iV c)) := TK2 _ _ hca
          have hle : (((cols (rs.take i)).take j).flatMap (colF (lo, hi)) ++ (colF (lo, hi) c).take k).length ≤ 1000 := Nat.le_trans (flat_le hcj (by rw [colF_len]; exact Nat.le_of_lt hk)) hst
          have lz : zs.length ≤ 1000 := by rw [tp2.len]; unfold cV; rw [List.length_map]; exact hle
          have hnext : ((colF (lo, hi) c).take (k + 1)) = (colF (lo, hi) c).take k ++ [c ++ [lo + (k : Nat)]] := take_more (colF_at (lo, hi) c hk)
          -- the step, whatever the new tuple's address
          have fin : ∀ (b : Addr) (H3 : Hp), Same H2 H3 → H3 b = some (.tup (iV (c ++ [lo + (k : Nat)]))) → ∃ l, ∃ xs x, V.ref p = .ref l ∧ [V.ref b] = [x] ∧ H3 l = some (.lst xs) ∧ xs.length < sizeLine ∧
              ∃ (z6 : Option V) (zs : List V), ([some (.ref a), some (.ref f), some (.int lo), some (.int hi), some (.ref p), some (.ref ca), some (.int (lo + (k : Nat)))] : List (Option V)) = [some (.ref a), some (.ref f), some (.int lo), some (.int hi), some (.ref p), some (.ref ca), z6] ∧ Same H' (upd H3 l (.lst (xs ++ [x]))) ∧ TK H'' (upd H3 l (.lst (xs ++ [x]))) ∧ (upd H3 l (.lst (xs ++ [x]))) p = some (.lst zs) ∧
              Tups (upd H3 l (.lst (xs ++ [x]))) zs (cV (((cols (rs.take i)).take j).flatMap (colF (lo, hi)) ++ (colF (lo, hi) c).take (k + 1))) := by
            intro b H3 S3 hb
            have hp3 : H3 p = some (.lst zs) := S3 _ _ hp2
            refine ⟨p, zs, .ref b, rfl, rfl, hp3, szl (by omega), _, zs ++ [.ref b], rfl, (SK2.trans S3).mut np, (TK2.trans S3.tk).trans (TK.lst hp3), upd_same, ?_⟩
            rw [hnext, ← List.append_assoc]
            unfold cV
            rw [List.map_append]
            exact ((tp2.mono S3.tk).mono (TK.lst hp3)).snoc (TK.lst hp3 _ _ hb)
          refine ⟨_, rfl, .inl ⟨rfl, _, sql hp2⟩, _, rfl, _, rfl, by show 1 ≤ sizeLine; decide, fun b nb => ?_⟩
          have S3 : Same H2 (upd H2 b (.tup [V.int (lo + (k : Nat))])) := Same.new nb
          refine ⟨ca, b, iV c, [V.int (lo + (k : Nat))], rfl, rfl, sqt (S3 _ _ hca2), sqt upd_same, ?_, fun e0 => ?_, fun e0 e1 => (nomatch e1), fun e0 e1 d nd => ?_⟩
          · refine sz ?_
            show (iV c).length + 1 ≤ 100000
            rw [List.length_map]
            have h9 := cols_len (List.mem_of_getElem? hcj)
            rw [List.length_take] at h9
            have := hs.1
            omega
          · have e2 : c = [] := List.map_eq_nil_iff.mp e0
            exact fin b _ S3 (by rw [e2]; exact upd_same)
          · refine fin d _ (S3.trans (Same.new nd)) ?_
            rw [upd_same]
            unfold iV
            rw [List.map_append]
            rfl
        · rintro σ2 H2 ⟨z6, zs, rfl, SK2, TK2, hp2, tp2⟩
          refine ⟨_, _, zs, rfl, SK2, hp2, ?_⟩
          rw [flat_take hcj]
          have et : (colF (lo, hi) c).take (hi + 1 - lo).toNat = colF (lo, hi) c := List.take_of_length_le (by rw [colF_len]; exact Nat.le_refl _)
          rw [et] at tp2
          exact tp2
      · rintro σ' H'' ⟨y5, y6, ys, rfl, SJ, hp, tp⟩
        refine ⟨_, rfl, p, _, _, _, _, _, rfl, SH.trans SJ, SH.free np, ys, hp, ?_⟩
        rw [cols_snoc hri]
        rw [lf, List.take_length] at tp
        exact tp
    · rintro σ H' ⟨f, x2, x3, x4, x5, x6, rfl, N⟩
      rw [hrr.len, lr, List.take_length] at N
      exact ⟨_, rfl, q f H' N⟩
end
end Fv
set_option Elab.async false
set_option linter.all false
set_option maxRecDepth 100000
set_option maxHeartbeats 4000000
/-! A machine's methods; sums over columns. -/
namespace Fv
open PySem PySem.Spec PyProof.Rows L2
abbrev Row := List (List Key × V)
def kC (c : List Int) : List Key := c.map Sum.inl
theorem kC_V (c : List Int) : (kC c).map kV = iV c := by
  unfold kC iV
  rw [List.map_map]
  rfl
/-- the dicts of a machine's ways -/
abbrev Dicts (H : Hp) : List V → List Row → Prop := Paired fun v row => ∃ d, v = .ref d ∧ H d = some (.dT row)
theorem Dicts.get : ∀ {H : Hp} {xs : List V} {rows : List Row} {i : Nat} {r : Row}, Dicts H xs rows → rows[i]? = some r → ∃ d, xs[i]? = some (.ref d) ∧ H d = some (.dT r)
  | _, _, _, _, _, .nil, e => by simp at e
  | _, _, _, 0, _, .cons (a := x) ⟨a, e1, q⟩ _, e => by
    have e2 : _ = _ := Option.some.inj e
    subst e2
    subst e1
    exact ⟨a, rfl, q⟩
  | _, _, _, i + 1, _, .cons _ t, e => by
    obtain ⟨a, e1, q⟩ := Dicts.get (i := i) t (by simpa using e)
    exact ⟨a, by simpa using e1, q⟩
theorem Dicts.mono {H H' : Hp} {xs : List V} {rows : List Row} (h : Dicts H xs rows) (s : ∀ d r, H d = some (.dT r) → H' d = some (.dT r)) : Dicts H' xs rows := by
  induction h with
  | nil => exact .nil
  | cons r t ih =>
    obtain ⟨a, e, q⟩ := r
    exact .cons ⟨a, e, s _ _ q⟩ ih
structure MachR (K : PySem.W.Frag) (H : Hp) (m : Addr) (rs : Rng) (ways : List Row) (good : List Bool) : Prop where
  ob : ∃ dx fs sc wl gl, H m = some (.ins (He.ga K "Machine") dx fs) ∧ fs.lookup ("score" : Str) = some (.ref sc) ∧ fs.lookup ("ways" : Str) = some (.ref wl) ∧ fs.lookup ("good" : Str) = some (.ref gl) ∧
    fs.lookup ("size" : Str) = none ∧ fs.lookup ("to" : Str) = none ∧ fs.lookup ("ends" : Str) = none ∧ ScR K H sc rs ∧ (∃ ds, H wl = some (.lst ds) ∧ Dicts H ds ways) ∧ H gl = some (.lst (good.map V.bl))
theorem MachR.mono {K : PySem.W.Frag} {H H' : Hp} {m : Addr} {rs : Rng} {ways : List Row} {good : List Bool} (h : MachR K H m rs ways good) (s : Same H H') : MachR K H' m rs ways good := by
  obtain ⟨dx, fs, sc, wl, gl, e1, e2, e3, e4, e5, e6, e7, e8, ⟨ds, e9, e10⟩, e11⟩ := h.ob
  exact ⟨dx, fs, sc, wl, gl, s _ _ e1, e2, e3, e4, e5, e6, e7, e8.mono s, ⟨ds, s _ _ e9, e10.mono fun d r q => s _ _ q⟩, s _ _ e11⟩
/-- a machine's parts go together -/
structure McOk (ways : List Row) (good : List Bool) : Prop where
  len : good.length = ways.length
  pos : 0 < ways.length
  few : ways.length ≤ 1000
  to : ∀ row ∈ ways, ∀ e ∈ row, ∃ t : Nat, e.2 = V.int t ∧ t < ways.length
def toF (ways : List Row) (s : Nat) (c : List Int) : Option V := valV (ways.getD s []) (kC c)
theorem toF_int {ways : List Row} {good : List Bool} (M : McOk ways good) {s : Nat} (hs : s < ways.length) {c : List Int} {v : V} (h : toF ways s c = some v) : ∃ t : Nat, v = .int t ∧ t < ways.length := by
  unfold toF valV at h
  have hg : ways.getD s [] = ways[s] := by rw [List.getD_eq_getElem?_getD, List.getElem?_eq_getElem hs] <;> rfl
  rw [hg] at h
  cases e : (ways[s]).find? (fun kv => decide (kv.1 = kC c)) with
  | none => rw [e] at h; cases h
  | some p =>
    rw [e] at h
    obtain ⟨t, e1, e2⟩ := M.to _ (List.getElem_mem hs) p (List.mem_of_find?_eq_some e)
    have e3 : p.2 = v := Option.some.inj h
    exact ⟨t, e3.symm.trans e1, e2⟩
/-- what a column adds -/
def addF (ways : List Row) (s : Nat) (ns : List Int) (c : List Int) : Int := match toF ways s c with
  | some (.int t) => ns.getD t.toNat 0
  | _ => 0
def wsum (ways : List Row) (s : Nat) (ns : List Int) (cs : List (List Int)) : Int := (cs.map (addF ways s ns)).sum
theorem wsum_snoc {ways : List Row} {s : Nat} {ns : List Int} {cs : List (List Int)} {j : Nat} {c : List Int} (h : cs[j]? = some c) : wsum ways s ns (cs.take (j + 1)) = wsum ways s ns (cs.take j) + addF ways s ns c := by
  unfold wsum
  rw [take_more h, List.map_append, List.sum_append]
  simp
section
variable {P : Program} {w : World} {K : PySem.W.Frag} {mg : Str → Option Value} {base : Heap}
def sp_M_size (K : PySem.W.Frag) : Sp := fun vs H Q _ => ∃ m rs ways good, vs = [.ref m] ∧ MachR K H m rs ways good ∧ Q (.int (ways.length : Nat)) H
def sp_M_to (K : PySem.W.Frag) : Sp := fun vs H Q _ => ∃ m rs ways good, ∃ (s : Nat) (ca : Addr) (c : List Int), vs = [.ref m, .int s, .ref ca] ∧ MachR K H m rs ways good ∧ s < ways.length ∧ H ca = some (.tup (iV c)) ∧ Q ((toF ways s c).getD .non) H
def sp_M_ends (K : PySem.W.Frag) : Sp := fun vs H Q _ => ∃ m rs ways good, ∃ (s : Nat) (b : Bool), vs = [.ref m, .int s] ∧ MachR K H m rs ways good ∧ good[s]? = some b ∧ Q (.bl b) H
theorem Dicts.len {H : Hp} {xs : List V} {rows : List Row} (h : Dicts H xs rows) : xs.length = rows.length := Paired.length h
theorem ok_M_size (T : Top K mg base) : MOk P w K mg base (He.ga K "Machine") "size" 1 ["self"] (sp_M_size K) := by
  obtain ⟨fd, F⟩ := T.D_Machine_size
  refine ⟨_, fd, F.ok sc_Machine_size (fun vs H Q E h => ?_) (fun cdv A outer s H vs Q E hr h => ?_), F.bindsN fun _ _ _ _ _ _ us hl => match us, hl with | [_], _ => rfl, T.c_Machine, T.m_Machine_size⟩
  · obtain ⟨m, rs, ways, good, rfl, _⟩ := h
    rfl
  · obtain ⟨m, rs, ways, good, rfl, M, q⟩ := h
    obtain ⟨dx, fs, sc, wl, gl, e1, e2, e3, e4, e5, e6, e7, e8, ⟨ds, e9, e10⟩, e11⟩ := M.ob
-- slots: 0 self
-- needs: 
    refine ⟨_, PSs.nox (pss_one (ps_ret (pe_callB call_len (by rfl) T.b_len PySem.boot_len (pa_cons (pe_fld (pv 0) rfl) pa_nil)))), ?_⟩
    refine ⟨_, rfl, m, _, dx, fs, _, rfl, e1, T.c_Machine, T.n_Machine_ways, e3, _, ds.length, rfl, .inl ⟨_, sql e9, rfl⟩, ?_⟩
    rw [e10.len]
    exact q
theorem ok_M_ends (T : Top K mg base) : MOk P w K mg base (He.ga K "Machine") "ends" 1 ["self", "state"] (sp_M_ends K) := by
  obtain ⟨fd, F⟩ := T.D_Machine_ends
  refine ⟨_, fd, F.ok sc_Machine_ends (fun vs H Q E h => ?_) (fun cdv A outer s H vs Q E hr h => ?_), F.bindsN fun _ _ _ _ _ _ us hl => match us, hl with | [_, _], _ => rfl, T.c_Machine, T.m_Machine_ends⟩
  · obtain ⟨m, rs, ways, good, s, b, rfl, _⟩ := h
    rfl
  · obtain ⟨m, rs, ways, good, s, b, rfl, M, hb, q⟩ := h
    obtain ⟨dx, fs, sc, wl, gl, e1, e2, e3, e4, e5, e6, e7, e8, ⟨ds, e9, e10⟩, e11⟩ := M.ob
-- slots: 0 self 1 state
-- needs: 
    refine ⟨_, PSs.nox (pss_one (ps_ret (pe_ix ix_list (pe_fld (pv 0) rfl) (pv 1) (fun _ _ => rfl)))), ?_⟩
    refine ⟨_, rfl, m, _, dx, fs, _, rfl, e1, T.c_Machine, T.n_Machine_good, e4, _, rfl, gl, _, _, _, rfl, rfl, sql e11, atI_nat (by rw [List.getElem?_map, hb]; rfl), q⟩
theorem ok_M_to (T : Top K mg base) : MOk P w K mg base (He.ga K "Machine") "to" 1 ["self", "state", "column"] (sp_M_to K) := by
  obtain ⟨fd, F⟩ := T.D_Machine_to
  refine ⟨_, fd, F.ok sc_Machine_to (fun vs H Q E h => ?_) (fun cdv A outer s H vs Q E hr h => ?_), F.bindsN fun _ _ _ _ _ _ us hl => match us, hl with | [_, _, _], _ => rfl, T.c_Machine, T.m_Machine_to⟩
  · obtain ⟨m, rs, ways, good, s, ca, c, rfl, _⟩ := h
    rfl
  · obtain ⟨m, rs, ways, good, s, ca, c, rfl, M, hs, hc, q⟩ := h
    obtain ⟨dx, fs, sc, wl, gl, e1, e2, e3, e4, e5, e6, e7, e8, ⟨ds, e9, e10⟩, e11⟩ := M.ob
    obtain ⟨d, g1, g2⟩ := e10.get (List.getElem?_eq_getElem hs)
    have hg : ways.getD s [] = ways[s] := by rw [List.getD_eq_getElem?_getD, List.getElem?_eq_getElem hs] <;> rfl
-- slots: 0 self 1 state 2 column
-- needs: 
    refine ⟨_, PSs.nox (pss_one (ps_ret (pe_dget1 (hu_of hr) (pe_ix ix_list (pe_fld (pv 0) rfl) (pv 1) (fun _ _ => rfl)) (pv 2) ⟨rfl, rfl, rfl, rfl⟩))), ?_⟩
    refine ⟨_, rfl, m, _, dx, fs, _, rfl, e1, T.c_Machine, T.n_Machine_ways, e3, _, rfl, wl, _, _, _, rfl, rfl, sql e9, atI_nat g1, d, rfl, .inr ⟨_, .inl g2⟩, _, rfl, _, DGet.t (k := kC c) g2 (by rw [kC_V]; exact hc), ?_⟩
    unfold toF at q
    rw [hg] at q
    exact q
def sp_ways_on (K : PySem.W.Frag) : Sp := fun vs H Q _ => ∃ m rs ways good, ∃ (s : Nat) (oa ah : Addr) (cs : List (List Int)) (ns : List Int), vs = [.ref m, .int s, .ref oa, .ref ah] ∧ MachR K H m rs ways good ∧ McOk ways good ∧ s < ways.length ∧
  TL K H oa (cV cs) ∧ SqL K H ah (ns.map V.int) ∧ ns.length = ways.length ∧ Q (.int (wsum ways s ns cs)) H
theorem ok_ways_on (T : Top K mg base) : DOk P w K mg base "ways_on" 2 ["machine", "state", "offers", "ahead"] (sp_ways_on K) := by
  have G_Machine_to := ok_M_to (P := P) (w := w) T
  obtain ⟨fd, F⟩ := T.D_ways_on
  refine ⟨fd, F.ok sc_ways_on (fun vs H Q E h => ?_) (fun cdv A outer s H vs Q E hr h => ?_), F.bindsN fun _ _ _ _ _ _ us hl => match us, hl with | [_, _, _, _], _ => rfl, F.kp, T.g_ways_on⟩
  · obtain ⟨m, rs, ways, good, s, oa, ah, cs, ns, rfl, _⟩ := h
    rfl
  · obtain ⟨m, rs, ways, good, s, oa, ah, cs, ns, rfl, M, MO, hs, ⟨xs, hx, tx⟩, hn, ln, q⟩ := h
-- slots: 0 machine 1 state 2 offers 3 ahead 4 total 5 column 6 behind
-- needs: Machine_to
    refine ⟨_, PSs.nox (pss_cons (ps_set (i := 4) sc_ways_on.nd rfl (by first | exact Or.inl rfl | exact Or.inr rfl) pe_int)
      (pss_cons (ps_for PassesOwn.never rfl (pi_list (pv 2)) (pg_name (i := 5) sc_ways_on.nd rfl (by first | exact Or.inl rfl | exact Or.inr rfl))
        (pss_cons (ps_set (i := 6) sc_ways_on.nd rfl (by first | exact Or.inl rfl | exact Or.inr rfl) (mcall G_Machine_to (hr.mono (by decide)) (pv 0) (pa_cons (pv 1) (pa_cons (pv 5) pa_nil))))
        (pss_one (ps_if (pt_cmpR op_notN (pv 6) pe_non (nomark _))
          (pss_one (ps_aug (i := 4) sc_ways_on.nd rfl (by first | exact Or.inl rfl | exact Or.inr rfl) (pe_ix ix_list (pv 3) (pv 6) (fun _ _ => rfl)) ip_add))
          pss_nil))))
      (pss_one (ps_ret (pv 4))))), ?_⟩
    refine ⟨_, rfl, oa, rfl, ⟨_, hx⟩, for_list (K := K) (a := oa) (xs := xs) (fun j σ H' => ∃ (y5 y6 : Option V), σ = [some (.ref m), some (.int s), some (.ref oa), some (.ref ah), some (.int (wsum ways s ns (cs.take j))), y5, y6] ∧ H' = H)
      ⟨_, _, rfl, rfl⟩ (fun j σ H' _ ⟨_, _, _, e⟩ => by rw [e]; exact hx) ?_ ?_⟩
    · rintro j v σ H' hv ⟨y5, y6, rfl, rfl⟩
      obtain ⟨ca, cc, rfl, hcc, hca⟩ := tx.getV hv
      obtain ⟨c, hcj, rfl⟩ : ∃ c, cs[j]? = some c ∧ cc = iV c := by
        unfold cV at hcc
        rw [List.getElem?_map] at hcc
        cases e : cs[j]? with
        | none => rw [e] at hcc; cases hcc
        | some c => rw [e] at hcc; exact ⟨c, rfl, (Option.some.inj hcc).symm⟩
      obtain ⟨dx, fs, sc, wl, gl, e1, e2, e3, e4, e5, e6, e7, e8, _, e11⟩ := M.ob
      refine ⟨_, rfl, m, dx, fs, rfl, e1, e6, _, rfl, _, rfl, m, rs, ways, good, s, ca, c, rfl, M, hs, hca, ?_⟩
      have hw := wsum_snoc (ways := ways) (s := s) (ns := ns) hcj
      cases e : toF ways s c with
      | none =>
        refine ⟨_, rfl, rfl, _, rfl, iteNS rfl ⟨some (.ref ca), some .non, ?_, rfl⟩⟩
        rw [hw, show addF ways s ns c = 0 by unfold addF; rw [e]]
        rw [Int.add_zero]
        rfl
      | some v =>
        obtain ⟨t, rfl, ht⟩ := toF_int MO hs e
        have gt : (ns.map V.int)[t]? = some (.int (ns.getD t 0)) := by
          have h1 : t < ns.length := by rw [ln]; exact ht
          rw [int_get (List.getElem?_eq_getElem h1), List.getD_eq_getElem?_getD, List.getElem?_eq_getElem h1]
          rfl
        refine ⟨_, rfl, rfl, _, rfl, iteT ?_⟩
        refine ⟨_, rfl, _, rfl, _, rfl, ah, _, _, _, rfl, rfl, hn, atI_nat gt, _, _, rfl, rfl, some (.ref ca), some (.int t), ?_, rfl⟩
        rw [hw, show addF ways s ns c = ns.getD t 0 by unfold addF; rw [e]; rfl]
        rfl
    · rintro σ H' ⟨y5, y6, rfl, rfl⟩
      rw [tx.len, show (cV cs).length = cs.length from List.length_map .., List.take_length]
      exact ⟨_, rfl, q⟩
theorem ok__law_sum (T : Top K mg base) : DOk P w K mg base "_law_sum" 2 ["_law_machine", "_law_state", "_law_some_here", "_law_beyond"] (sp_ways_on K) := by
  have G_Machine_to := ok_M_to (P := P) (w := w) T
  obtain ⟨fd, F⟩ := T.D__law_sum
  refine ⟨fd, F.ok sc__law_sum (fun vs H Q E h => ?_) (fun cdv A outer s H vs Q E hr h => ?_), F.bindsN fun _ _ _ _ _ _ us hl => match us, hl with | [_, _, _, _], _ => rfl, F.kp, T.g__law_sum⟩
  · obtain ⟨m, rs, ways, good, s, oa, ah, cs, ns, rfl, _⟩ := h
    rfl
  · obtain ⟨m, rs, ways, good, s, oa, ah, cs, ns, rfl, M, MO, hs, ⟨xs, hx, tx⟩, hn, ln, q⟩ := h
-- slots: 0 _law_machine 1 _law_state 2 _law_some_here 3 _law_beyond 4 _law_total 5 _law_column 6 _law_behind
-- needs: Machine_to
    refine ⟨_, PSs.nox (pss_cons (ps_set (i := 4) sc__law_sum.nd rfl (by first | exact Or.inl rfl | exact Or.inr rfl) pe_int)
      (pss_cons (ps_for PassesOwn.never rfl (pi_list (pv 2)) (pg_name (i := 5) sc__law_sum.nd rfl (by first | exact Or.inl rfl | exact Or.inr rfl))
        (pss_cons (ps_set (i := 6) sc__law_sum.nd rfl (by first | exact Or.inl rfl | exact Or.inr rfl) (mcall G_Machine_to (hr.mono (by decide)) (pv 0) (pa_cons (pv 1) (pa_cons (pv 5) pa_nil))))
        (pss_one (ps_if (pt_cmpR op_notN (pv 6) pe_non (nomark _))
          (pss_one (ps_set (i := 4) sc__law_sum.nd rfl (by first | exact Or.inl rfl | exact Or.inr rfl) (pe_op op_add (pv 4) (pe_ix ix_list (pv 3) (pv 6) (fun _ _ => rfl)))))
          pss_nil))))
      (pss_one (ps_ret (pv 4))))), ?_⟩
    refine ⟨_, rfl, oa, rfl, ⟨_, hx⟩, for_list (K := K) (a := oa) (xs := xs) (fun j σ H' => ∃ (y5 y6 : Option V), σ = [some (.ref m), some (.int s), some (.ref oa), some (.ref ah), some (.int (wsum ways s ns (cs.take j))), y5, y6] ∧ H' = H)
      ⟨_, _, rfl, rfl⟩ (fun j σ H' _ ⟨_, _, _, e⟩ => by rw [e]; exact hx) ?_ ?_⟩
    · rintro j v σ H' hv ⟨y5, y6, rfl, rfl⟩
      obtain ⟨ca, cc, rfl, hcc, hca⟩ := tx.getV hv
      obtain ⟨c, hcj, rfl⟩ : ∃ c, cs[j]? = some c ∧ cc = iV c := by
        unfold cV at hcc
        rw [List.getElem?_map] at hcc
        cases e : cs[j]? with
        | none => rw [e] at hcc; cases hcc
        | some c => rw [e] at hcc; exact ⟨c, rfl, (Option.some.inj hcc).symm⟩
      obtain ⟨dx, fs, sc, wl, gl, e1, e2, e3, e4, e5, e6, e7, e8, _, e11⟩ := M.ob
      refine ⟨_, rfl, m, dx, fs, rfl, e1, e6, _, rfl, _, rfl, m, rs, ways, good, s, ca, c, rfl, M, hs, hca, ?_⟩
      have hw := wsum_snoc (ways := ways) (s := s) (ns := ns) hcj
      cases e : toF ways s c with
      | none =>
        refine ⟨_, rfl, rfl, _, rfl, iteNS rfl ⟨some (.ref ca), some .non, ?_, rfl⟩⟩
        rw [hw, show addF ways s ns c = 0 by unfold addF; rw [e]]
        rw [Int.add_zero]
        rfl
      | some v =>
        obtain ⟨t, rfl, ht⟩ := toF_int MO hs e
        have gt : (ns.map V.int)[t]? = some (.int (ns.getD t 0)) := by
          have h1 : t < ns.length := by rw [ln]; exact ht
          rw [int_get (List.getElem?_eq_getElem h1), List.getD_eq_getElem?_getD, List.getElem?_eq_getElem h1]
          rfl
        refine ⟨_, rfl, rfl, _, rfl, iteT ?_⟩
        refine ⟨_, rfl, _, rfl, _, rfl, ah, _, _, _, rfl, rfl, hn, atI_nat gt, _, _, rfl, rfl, some (.ref ca), some (.int t), ?_, rfl⟩
        rw [hw, show addF ways s ns c = ns.getD t 0 by unfold addF; rw [e]; rfl]
        rfl
    · rintro σ H' ⟨y5, y6, rfl, rfl⟩
      rw [tx.len, show (cV cs).length = cs.length from List.length_map .., List.take_length]
      exact ⟨_, rfl, q⟩
end
end Fv
set_option Elab.async false
set_option linter.all false
set_option maxRecDepth 100000
set_option maxHeartbeats 4000000
/-! The paper of counts. -/
namespace Fv
open PySem PySem.Spec PyProof.Rows L2
abbrev Pat := List (List (Option Int))
def pV (pat : Pat) : List (List V) := pat.map gV
def lastF (good : List Bool) : List Int := good.map fun b => if b = true then 1 else 0
def rowF (ways : List Row) (cs : List (List Int)) (ns : List Int) : List Int := (List.range ways.length).map fun s => wsum ways s ns cs
def offF (rs : Rng) (g : List (Option Int)) : List (List Int) := (cols rs).filter fun c => agr c g
def paperF (rs : Rng) (ways : List Row) (good : List Bool) : Pat → List (List Int)
  | [] => [lastF good]
  | g :: gs => rowF ways (offF rs g) ((paperF rs ways good gs).headD []) :: paperF rs ways good gs
theorem paperF_len (rs : Rng) (ways : List Row) (good : List Bool) : ∀ pat : Pat, (paperF rs ways good pat).length = pat.length + 1
  | [] => rfl
  | g :: gs => by
    unfold paperF
    rw [List.length_cons, paperF_len rs ways good gs, List.length_cons]
theorem rowF_len (ways : List Row) (cs : List (List Int)) (ns : List Int) : (rowF ways cs ns).length = ways.length := by
  unfold rowF
  rw [List.length_map, List.length_range]
theorem rowF_at {ways : List Row} {cs : List (List Int)} {ns : List Int} {s : Nat} (h : s < ways.length) : (rowF ways cs ns)[s]? = some (wsum ways s ns cs) := by
  unfold rowF
  rw [List.getElem?_map, List.getElem?_range h]
  rfl
theorem paperF_rows {rs : Rng} {ways : List Row} {good : List Bool} (M : McOk ways good) : ∀ (pat : Pat), ∀ r ∈ paperF rs ways good pat, r.length = ways.length
  | [], r, h => by
    rw [List.mem_singleton.mp h]
    unfold lastF
    rw [List.length_map]
    exact M.len
  | g :: gs, r, h => by
    unfold paperF at h
    rcases List.mem_cons.mp h with e | h
    · rw [e, rowF_len]
    · exact paperF_rows M gs r h
theorem paperF_ne (rs : Rng) (ways : List Row) (good : List Bool) (pat : Pat) : ∃ hd tl, paperF rs ways good pat = hd :: tl := by
  cases pat with
  | nil => exact ⟨_, _, rfl⟩
  | cons g gs => exact ⟨_, _, rfl⟩
/-- lists of whole numbers at these places -/
abbrev Rows (H : Hp) : List Addr → List (List Int) → Prop := Paired fun a ns => H a = some (.lst (ns.map V.int))
theorem Rows.keep {H H' : Hp} : ∀ {as : List Addr} {rows : List (List Int)}, Rows H as rows → (∀ a o, a ∈ as → H a = some o → H' a = some o) → Rows H' as rows
  | _, _, .nil, _ => .nil
  | _, _, .cons r t, k => .cons (k _ _ (List.mem_cons_self ..) r) (Rows.keep t fun a o h e => k a o (List.mem_cons_of_mem _ h) e)
theorem Rows.get : ∀ {H : Hp} {as : List Addr} {rows : List (List Int)} {i : Nat} {ns : List Int}, Rows H as rows → rows[i]? = some ns → ∃ a, as[i]? = some a ∧ H a = some (.lst (ns.map V.int))
  | _, _, _, _, _, .nil, e => by simp at e
  | _, _, _, 0, _, .cons (a := x) q _, e => by
    have e2 : _ = _ := Option.some.inj e
    subst e2
    exact ⟨x, rfl, q⟩
  | _, _, _, i + 1, _, .cons _ t, e => by
    obtain ⟨a, e1, q⟩ := Rows.get (i := i) t (by simpa using e)
    exact ⟨a, by simpa using e1, q⟩
theorem Rows.len {H : Hp} {as : List Addr} {rows : List (List Int)} (h : Rows H as rows) : as.length = rows.length := Paired.length h
theorem paired_unsnoc {α β : Type} {R : α → β → Prop} {y : β} : ∀ {xs : List α} {ys : List β}, Paired R xs (ys ++ [y]) → ∃ xs' x, xs = xs' ++ [x] ∧ Paired R xs' ys ∧ R x y
  | _, [], .cons r t => by
    cases t
    exact ⟨[], _, rfl, .nil, r⟩
  | _, z :: ys, .cons r t => by
    obtain ⟨xs', x, e, p, q⟩ := paired_unsnoc (ys := ys) t
    exact ⟨_ :: xs', x, by rw [e]; rfl, .cons r p, q⟩
theorem paired_rev {α β : Type} {R : α → β → Prop} : ∀ {xs : List α} {ys : List β}, Paired R xs ys → Paired R xs.reverse ys.reverse
  | _, _, .nil => .nil
  | _, _, .cons r t => by
    rw [List.reverse_cons, List.reverse_cons]
    exact paired_snoc r (paired_rev t)
/-- a new paper: a new list of new lists -/
structure PaperAt (H H' : Hp) (p : Addr) (rows : List (List Int)) : Prop where
  same : Same H H'
  new : H p = none
  at_ : ∃ as : List Addr, H' p = some (.lst (as.map V.ref)) ∧ as.Nodup ∧ Rows H' as rows ∧ ∀ a ∈ as, H a = none ∧ a ≠ p
section
variable {P : Program} {w : World} {K : PySem.W.Frag} {mg : Str → Option Value} {base : Heap}
def sp_agreeing (K : PySem.W.Frag) : Sp := fun vs H Q _ => ∃ m rs ways good, ∃ (ga : Addr) (g : List (Option Int)), vs = [.ref m, .ref ga] ∧ MachR K H m rs ways good ∧ Small rs ∧ rs.length ≤ 10 ∧ H ga = some (.tup (gV g)) ∧ g.length ≤ rs.length ∧
  ∀ p H', NewT H H' p (cV (offF rs g)) → Q (.ref p) H'
theorem small_cols {rs : Rng} (h : Small rs) : (cols rs).length ≤ 1000 := by
  have h1 := h.2 rs.length
  rw [List.take_length] at h1
  exact h1
theorem ok_agreeing (T : Top K mg base) : DOk P w K mg base "agreeing" 2 ["machine", "given"] (sp_agreeing K) := by
  have G_columns := ok_columns (P := P) (w := w) T
  have G_agrees := ok_agrees (P := P) (w := w) T
  obtain ⟨fd, F⟩ := T.D_agreeing
  refine ⟨fd, F.ok sc_agreeing (fun vs H Q E h => ?_) (fun cdv A outer s H vs Q E hr h => ?_), F.bindsN fun _ _ _ _ _ _ us hl => match us, hl with | [_, _], _ => rfl, F.kp, T.g_agreeing⟩
  · obtain ⟨m, rs, ways, good, ga, g, rfl, _⟩ := h
    rfl
  · obtain ⟨m, rs, ways, good, ga, g, rfl, M, hs, h10, hg, lg, q⟩ := h
    obtain ⟨dx, fs, sc, wl, gl, e1, e2, e3, e4, e5, e6, e7, e8, _, e11⟩ := M.ob
-- slots: 0 machine 1 given 2 column
-- needs: columns agrees
    refine ⟨_, PSs.nox (pss_one (ps_ret (pe_lc (own := [("column", 2)]) (g := gName 2) rfl sc_agreeing.nd (pi_list (dcall G_columns (hr.mono (by decide)) (by rfl) (pa_cons (pe_fld (pv 0) rfl) pa_nil))) (blkOk_by (N := N_agreeing) (sc := defScope s_agreeing) (by decide +kernel)) (fun _ _ _ _ _ => pg_name (i := 2) sc_agreeing.nd rfl (Or.inl rfl)) (fun _ _ _ _ _ => pts_one (pt_val (dcall G_agrees (hr.mono (by decide)) (by rfl) (pa_cons (pv 2) (pa_cons (pv 1) pa_nil))))) (fun _ _ _ _ _ => (pv 2))))), ?_⟩
    refine ⟨_, rfl, m, _, dx, fs, _, rfl, e1, T.c_Machine, T.n_Machine_score, e2, sc, rs, rfl, e8, hs, fun p H1 N => ?_⟩
    obtain ⟨S1, np, xs, hp, tx⟩ := N
    refine ⟨p, rfl, ⟨_, sql hp⟩, fun D hD => lc_list (K := K) (a := p) (xs := xs) (fun j H' => Same H1 H' ∧ ∃ ys, H' D = some (.lst ys) ∧ Tups H' ys (cV (((cols rs).take j).filter fun c => agr c g)))
      ⟨Same.new hD, [], upd_same, .nil⟩ (fun j H' _ ⟨s, _⟩ => sql (s _ _ hp)) ?_ ?_⟩
    · rintro j v H' hv ⟨SJ, ys, hy, ty⟩
      obtain ⟨ca, cc, rfl, hcc, hca⟩ := (tx.mono SJ.tk).getV hv
      obtain ⟨c, hcj, rfl⟩ : ∃ c, (cols rs)[j]? = some c ∧ cc = iV c := by
        unfold cV at hcc
        rw [List.getElem?_map] at hcc
        cases e : (cols rs)[j]? with
        | none => rw [e] at hcc; cases hcc
        | some c => rw [e] at hcc; exact ⟨c, rfl, (Option.some.inj hcc).symm⟩
      have lc : c.length = rs.length := cols_len (List.mem_of_getElem? hcj)
      have hnx : ((cols rs).take (j + 1)).filter (fun c => agr c g) = ((cols rs).take j).filter (fun c => agr c g) ++ [c].filter (fun c => agr c g) := by
        rw [take_more hcj, List.filter_append]
      refine ⟨rfl, _, rfl, _, rfl, ca, ga, c, g, rfl, hca, SJ _ _ (S1 _ _ hg), by omega, by omega, _, rfl, ?_⟩
      cases e : agr c g with
      | true =>
        refine iteT ⟨_, rfl, ys, hy, ?_, SJ.mut hD, ys ++ [.ref ca], upd_same, ?_⟩
        · have l1 : ys.length ≤ 1000 := by
            rw [ty.len]
            unfold cV
            rw [List.length_map]
            refine Nat.le_trans (List.length_filter_le ..) ?_
            rw [List.length_take]
            exact Nat.le_trans (Nat.min_le_right ..) (small_cols hs)
          exact szl (by omega)
        · rw [hnx, show [c].filter (fun c => agr c g) = [c] by simp [e]]
          unfold cV
          rw [List.map_append]
          exact (ty.mono (TK.lst hy)).snoc (TK.lst hy _ _ hca)
      | false =>
        refine iteF ⟨SJ, ys, hy, ?_⟩
        rw [hnx, show [c].filter (fun c => agr c g) = [] by simp [e], List.append_nil]
        exact ty
    · rintro H' ⟨SJ, ys, hy, ty⟩
      refine q D H' ⟨S1.trans SJ, S1.free hD, ys, hy, ?_⟩
      rw [tx.len, show (cV (cols rs)).length = (cols rs).length from List.length_map .., List.take_length] at ty
      exact ty
def sp_counts_paper (K : PySem.W.Frag) : Sp := fun vs H Q _ => ∃ m rs ways good, ∃ (pa : Addr) (pat : Pat), vs = [.ref m, .ref pa] ∧ MachR K H m rs ways good ∧ McOk ways good ∧ Small rs ∧ rs.length ≤ 10 ∧ TL K H pa (pV pat) ∧ pat.length ≤ 100 ∧
  (∀ g ∈ pat, g.length ≤ rs.length) ∧ ∀ p H', PaperAt H H' p (paperF rs ways good pat) → Q (.ref p) H'
theorem drop_one {α : Type} {l : List α} {i : Nat} {x : α} (h : l[i]? = some x) : l.drop i = x :: l.drop (i + 1) := by
  obtain ⟨h1, e⟩ := List.getElem?_eq_some_iff.mp h
  rw [List.drop_eq_getElem_cons h1, e]
theorem nodup_snoc {α : Type} {l : List α} {x : α} (h : l.Nodup) (hx : x ∉ l) : (l ++ [x]).Nodup := by
  rw [List.nodup_append]
  refine ⟨h, List.nodup_cons.mpr ⟨by simp, List.nodup_nil⟩, fun a ha b hb e => ?_⟩
  rw [List.mem_singleton.mp hb] at e
  exact hx (e ▸ ha)
theorem nodup_rev {α : Type} {l : List α} (h : l.Nodup) : l.reverse.Nodup := by
  unfold List.Nodup
  rw [List.pairwise_reverse]
  exact List.Pairwise.imp (fun hab e => hab e.symm) h
theorem ok_counts_paper (T : Top K mg base) : DOk P w K mg base "counts_paper" 3 ["machine", "pattern"] (sp_counts_paper K) := by
  have G_agreeing := ok_agreeing (P := P) (w := w) T
  have G_ways_on := ok_ways_on (P := P) (w := w) T
  have G_Machine_size := ok_M_size (P := P) (w := w) T
  have G_Machine_ends := ok_M_ends (P := P) (w := w) T
  obtain ⟨fd, F⟩ := T.D_counts_paper
  refine ⟨fd, F.ok sc_counts_paper (fun vs H Q E h => ?_) (fun cdv A outer s H vs Q E hr h => ?_), F.bindsN fun _ _ _ _ _ _ us hl => match us, hl with | [_, _], _ => rfl, F.kp, T.g_counts_paper⟩
  · obtain ⟨m, rs, ways, good, pa, pat, rfl, _⟩ := h
    rfl
  · obtain ⟨m, rs, ways, good, pa, pat, rfl, M, MO, hs, h10, ⟨pxs, hpl, tpx⟩, lpat, hgl, q⟩ := h
    have lx : pxs.length = pat.length := by rw [tpx.len]; exact List.length_map ..
-- slots: 0 machine 1 pattern 2 paper 3 given 4 offers 5 ahead 6 state
-- needs: agreeing ways_on Machine_size Machine_ends
    refine ⟨_, PSs.nox (pss_cons (ps_set (i := 2) sc_counts_paper.nd rfl (by first | exact Or.inl rfl | exact Or.inr rfl) (pe_lst (pa_cons (pe_lc (own := [("state", 6)]) (g := gName 6) (tt := tYes) rfl sc_counts_paper.nd (pi_range1 (by rfl) T.b_range (pa_cons (mcall0 G_Machine_size (hr.mono (by decide)) (pv 0)) pa_nil)) (blkOk_by (N := N_counts_paper) (sc := defScope s_counts_paper) (by decide +kernel)) (fun _ _ _ _ _ => pg_name (i := 6) sc_counts_paper.nd rfl (Or.inl rfl)) (fun _ _ _ _ _ => pts_nil) (fun _ _ _ _ _ => (pe_callTy call_int1 (by rfl) T.b_int (by decide +kernel) (pa_cons (mcall G_Machine_ends (hr.mono (by decide)) (pv 0) (pa_cons (pv 6) pa_nil)) pa_nil)))) pa_nil)))
      (pss_cons (ps_for PassesOwn.never rfl (pi_reversed (by rfl) T.b_reversed (pa_cons (pv 1) pa_nil)) (pg_name (i := 3) sc_counts_paper.nd rfl (by first | exact Or.inl rfl | exact Or.inr rfl))
        (pss_cons (ps_set (i := 4) sc_counts_paper.nd rfl (by first | exact Or.inl rfl | exact Or.inr rfl) (dcall G_agreeing (hr.mono (by decide)) (by rfl) (pa_cons (pv 0) (pa_cons (pv 3) pa_nil))))
        (pss_cons (ps_set (i := 5) sc_counts_paper.nd rfl (by first | exact Or.inl rfl | exact Or.inr rfl) (pe_ix ix_list (pv 2) (pe_un un_neg pe_int) (fun _ _ => rfl)))
        (pss_one (ps_expr (pe_bm PySem.F.plainAttrs_list PySem.F.slot_list_append PySem.F.type_list_append mt_append (pv 2) (pa_cons (pe_lc (own := [("state", 6)]) (g := gName 6) (tt := tYes) rfl sc_counts_paper.nd (pi_range1 (by rfl) T.b_range (pa_cons (mcall0 G_Machine_size (hr.mono (by decide)) (pv 0)) pa_nil)) (blkOk_by (N := N_counts_paper) (sc := defScope s_counts_paper) (by decide +kernel)) (fun _ _ _ _ _ => pg_name (i := 6) sc_counts_paper.nd rfl (Or.inl rfl)) (fun _ _ _ _ _ => pts_nil) (fun _ _ _ _ _ => (dcall G_ways_on (hr.mono (by decide)) (by rfl) (pa_cons (pv 0) (pa_cons (pv 6) (pa_cons (pv 4) (pa_cons (pv 5) pa_nil))))))) pa_nil)))))))
      (pss_one (ps_ret (pe_revL (pv 2)))))), ?_⟩
    -- [int(machine.ends(state)) for state in range(machine.size())]
    obtain ⟨dx, fs, sc, wl, gl, e1, e2, e3, e4, e5, e6, e7, e8, _, e11⟩ := M.ob
    refine ⟨_, rfl, m, dx, fs, rfl, e1, e5, m, rs, ways, good, rfl, M, (ways.length : Nat), rfl, by omega, (by have := MO.few; omega), fun D hD => ?_⟩
    refine lc_range (lo := 0) (n := ways.length) (fun j H' => Same H H' ∧ H' D = some (.lst (((lastF good).take j).map V.int))) ⟨Same.new hD, upd_same⟩ ?_ ?_
    · rintro j H' hj ⟨SJ, hd⟩
      have hjg : j < good.length := by rw [MO.len]; exact hj
      refine ⟨rfl, ?_⟩
      refine ⟨_, rfl, m, dx, fs, rfl, SJ _ _ e1, e7, _, rfl, m, rs, ways, good, j, good[j], ?_, M.mono SJ, List.getElem?_eq_getElem hjg, .inr ⟨_, rfl, _, hd, ?_, SJ.mut hD, ?_⟩⟩
      · show [V.ref m, V.int (0 + (j : Nat))] = _
        rw [Int.zero_add]
      · rw [List.length_map, List.length_take]
        exact szl (by have := MO.few; omega)
      · have hl : (lastF good)[j]? = some (if good[j] = true then 1 else 0) := by
          unfold lastF
          rw [List.getElem?_map, List.getElem?_eq_getElem hjg]
          rfl
        rw [take_more hl, List.map_append, upd_same]
        rfl
    · rintro H1 ⟨S1, hd⟩
      have ll : (lastF good).length = ways.length := by unfold lastF; rw [List.length_map]; exact MO.len
      rw [List.take_of_length_le (by omega)] at hd
      -- paper = [..]
      refine ⟨by show 1 ≤ sizeLine; decide, fun p np => ?_⟩
      have S2 : Same H (upd H1 p (.lst [.ref D])) := S1.trans (Same.new np)
      have npD : D ≠ p := ne_of_none hd np
      refine ⟨_, rfl, pa, pxs, rfl, S2.seq hpl, ?_⟩
      refine for_it walk_rev (fun i σ H' => ∃ (x3 x4 x5 x6 : Option V), σ = [some (.ref m), some (.ref pa), some (.ref p), x3, x4, x5, x6] ∧ i ≤ pat.length ∧ Same H H' ∧ ∃ as : List Addr, H' p = some (.lst (as.map V.ref)) ∧ as.Nodup ∧ Rows H' as (paperF rs ways good (pat.drop (pat.length - i))).reverse ∧ ∀ a ∈ as, H a = none ∧ a ≠ p)
        ⟨none, none, none, none, rfl, Nat.zero_le _, S2, [D], upd_same, by simp, ?_, fun a ha => ?_⟩ (fun i σ H' _ ⟨_, _, _, _, _, _, s, _⟩ => s.seq hpl) ?_ ?_
      · rw [Nat.sub_zero, List.drop_length]
        exact .cons (by rw [upd_ne npD]; exact hd) .nil
      · rw [List.mem_singleton.mp ha]
        exact ⟨hD, npD⟩
      · rintro i v σ H' H'' hi ⟨x3, x4, x5, x6, rfl, hile, SJ, as, hp, nd, hrows, hfr⟩ ⟨rfl, hv⟩
        have hi2 : i < pat.length := by rw [← lx]; exact hi
        obtain ⟨ga, gc, rfl, hgc, hga⟩ := (tpx.mono SJ.tk).getV hv
        obtain ⟨g, hgi, rfl⟩ : ∃ g, pat[pat.length - 1 - i]? = some g ∧ gc = gV g := by
          unfold pV at hgc
          rw [List.getElem?_map, lx] at hgc
          cases e : pat[pat.length - 1 - i]? with
          | none => rw [e] at hgc; cases hgc
          | some c => rw [e] at hgc; exact ⟨c, rfl, (Option.some.inj hgc).symm⟩
        have hgm : g ∈ pat := List.mem_of_getElem? hgi
        -- offers = agreeing(machine, given)
        refine ⟨_, rfl, _, rfl, m, rs, ways, good, ga, g, rfl, M.mono SJ, hs, h10, hga, hgl g hgm, fun o H2 NO => ?_⟩
        obtain ⟨SO, no, oxs, ho, tox⟩ := NO
        obtain ⟨hd1, tl1, ep⟩ := paperF_ne rs ways good (pat.drop (pat.length - i))
        have hrows2 : Rows H2 as (tl1.reverse ++ [hd1]) := by
          rw [ep, List.reverse_cons] at hrows
          exact hrows.keep fun a u _ e => SO _ _ e
        obtain ⟨as', al, eas, _, hal⟩ := paired_unsnoc hrows2
        have hp2 : H2 p = some (.lst (as.map V.ref)) := SO _ _ hp
        have hlast : atI (as.map V.ref) (-1) = some (.ref al) := by
          rw [eas, List.map_append]
          exact atI_last _ _
        -- ahead = paper[-1]
        refine ⟨_, rfl, _, rfl, p, _, _, _, rfl, rfl, sql hp2, hlast, ?_⟩
        have lhd : hd1.length = ways.length := paperF_rows MO (pat.drop (pat.length - i)) hd1 (by rw [ep]; exact List.mem_cons_self ..)
        -- paper.append([..])
        have S3 : Same H H2 := SJ.trans SO
        refine ⟨_, rfl, .inl ⟨rfl, _, sql hp2⟩, _, rfl, m, dx, fs, rfl, S3 _ _ e1, e5, m, rs, ways, good, rfl, M.mono S3, (ways.length : Nat), rfl, by omega, (by have := MO.few; omega), fun D2 hD2 => ?_⟩
        refine lc_range (lo := 0) (n := ways.length) (fun j H' => Same H2 H' ∧ H' D2 = some (.lst (((rowF ways (offF rs g) hd1).take j).map V.int))) ⟨Same.new hD2, upd_same⟩ ?_ ?_
        · rintro j H3 hj ⟨S4, hd3⟩
          refine ⟨rfl, ?_⟩
          refine ⟨_, rfl, _, rfl, _, rfl, _, rfl, m, rs, ways, good, j, o, al, offF rs g, hd1, ?_, (M.mono S3).mono S4, MO, hj, ⟨oxs, sql (S4 _ _ ho), tox.mono S4.tk⟩, sql (S4 _ _ hal), lhd, _, hd3, ?_, S4.mut hD2, ?_⟩
          · show [V.ref m, V.int (0 + (j : Nat)), V.ref o, V.ref al] = _
            rw [Int.zero_add]
          · rw [List.length_map, List.length_take]
            exact szl (by have := MO.few; omega)
          · rw [take_more (rowF_at hj), List.map_append, upd_same]
            rfl
        · rintro H3 ⟨S4, hd3⟩
          rw [List.take_of_length_le (by rw [rowF_len]; exact Nat.le_refl _)] at hd3
          have hp3 : H3 p = some (.lst (as.map V.ref)) := S4 _ _ hp2
          have npD2 : D2 ≠ p := (ne_of_none hp2 hD2).symm
          have nas : D2 ∉ as := fun h => by
            obtain ⟨k, hk, ek⟩ := List.mem_iff_getElem.mp h
            have hk2 : k < (tl1.reverse ++ [hd1]).length := by rw [← hrows2.len]; exact hk
            obtain ⟨b, eb, hb⟩ := hrows2.get (List.getElem?_eq_getElem hk2)
            rw [List.getElem?_eq_getElem hk, ek] at eb
            cases eb
            rw [hD2] at hb
            cases hb
          have la : as.length ≤ 101 := by
            have h1 := hrows.len
            rw [List.length_reverse, paperF_len, List.length_drop] at h1
            omega
          refine ⟨p, _, .ref D2, rfl, rfl, hp3, ?_, _, _, _, _, rfl, hi2, (S3.trans S4).mut (S1.free np), as ++ [D2], ?_, nodup_snoc nd nas, ?_, fun a ha => ?_⟩
          · rw [List.length_map]
            exact szl (by omega)
          · rw [upd_same, List.map_append]
            rfl
          · have ed : pat.drop (pat.length - (i + 1)) = g :: pat.drop (pat.length - i) := by
              have h1 : pat.length - (i + 1) = pat.length - 1 - i := by omega
              rw [h1, drop_one hgi, show pat.length - 1 - i + 1 = pat.length - i by omega]
            rw [ed]
            show Rows _ _ (rowF ways (offF rs g) ((paperF rs ways good (pat.drop (pat.length - i))).headD []) :: paperF rs ways good (pat.drop (pat.length - i))).reverse
            rw [List.reverse_cons]
            refine paired_snoc ?_ ?_
            · rw [upd_ne npD2, ep]
              exact hd3
            · rw [ep, List.reverse_cons]
              refine (hrows2.keep fun a u _ e => S4 _ _ e).keep fun a u ha e => ?_
              rw [upd_ne (hfr a ha).2]
              exact e
          · rcases List.mem_append.mp ha with h | h
            · exact hfr a h
            · rw [List.mem_singleton.mp h]
              exact ⟨S3.free hD2, npD2⟩
      · rintro σ H' ⟨x3, x4, x5, x6, rfl, hile, SJ, as, hp, nd, hrows, hfr⟩
        rw [lx, Nat.sub_self, List.drop_zero] at hrows
        refine ⟨_, rfl, p, _, rfl, sql hp, fun r nr => ?_⟩
        refine q r _ ⟨SJ.trans (Same.new nr), SJ.free nr, as.reverse, ?_, nodup_rev nd, ?_, fun a ha => ?_⟩
        · rw [upd_same, List.map_reverse]
        · have h1 := paired_rev hrows
          rw [List.reverse_reverse] at h1
          exact Rows.keep h1 fun a u _ e => Same.new nr _ _ e
        · have ha' : a ∈ as := List.mem_reverse.mp ha
          refine ⟨(hfr a ha').1, fun e => ?_⟩
          obtain ⟨k, hk, ek⟩ := List.mem_iff_getElem.mp ha'
          have hk2 : k < (paperF rs ways good pat).reverse.length := by rw [← hrows.len]; exact hk
          obtain ⟨b, eb, hb⟩ := hrows.get (List.getElem?_eq_getElem hk2)
          rw [List.getElem?_eq_getElem hk, ek] at eb
          cases eb
          rw [e, nr] at hb
          cases hb
end
end Fv
set_option Elab.async false
set_option linter.all false
set_option maxRecDepth 100000
set_option maxHeartbeats 4000000
/-! counted; the law's own look at a paper. -/
namespace Fv
open PySem PySem.Spec PyProof.Rows L2
theorem paperF_last (rs : Rng) (ways : List Row) (good : List Bool) : ∀ pat : Pat, ∃ ini, paperF rs ways good pat = ini ++ [lastF good]
  | [] => ⟨[], rfl⟩
  | g :: gs => by
    obtain ⟨ini, e⟩ := paperF_last rs ways good gs
    refine ⟨rowF ways (offF rs g) ((paperF rs ways good gs).headD []) :: ini, ?_⟩
    show rowF ways (offF rs g) ((paperF rs ways good gs).headD []) :: paperF rs ways good gs = _
    rw [e]
    rfl
theorem paperF_at {rs : Rng} {ways : List Row} {good : List Bool} : ∀ {pat : Pat} {k : Nat} {g : List (Option Int)}, pat[k]? = some g → ∃ ns, (paperF rs ways good pat)[k + 1]? = some ns ∧ (paperF rs ways good pat)[k]? = some (rowF ways (offF rs g) ns)
  | [], _, _, h => by simp at h
  | g :: gs, 0, g', h => by
    have e : g = g' := Option.some.inj h
    subst e
    obtain ⟨hd, tl, e⟩ := paperF_ne rs ways good gs
    refine ⟨hd, ?_, ?_⟩
    · show (paperF rs ways good gs)[0]? = some hd
      rw [e]
      rfl
    · show some (rowF ways (offF rs g) ((paperF rs ways good gs).headD [])) = _
      rw [e]
      rfl
  | g :: gs, k + 1, g', h => by
    obtain ⟨ns, h1, h2⟩ := paperF_at (rs := rs) (ways := ways) (good := good) (pat := gs) (k := k) (by simpa using h)
    exact ⟨ns, h1, h2⟩
def countF (rs : Rng) (ways : List Row) (good : List Bool) (pat : Pat) : Int := ((paperF rs ways good pat).headD []).getD 0 0
section
variable {P : Program} {w : World} {K : PySem.W.Frag} {mg : Str → Option Value} {base : Heap}
def sp_counted (K : PySem.W.Frag) : Sp := fun vs H Q _ => ∃ m rs ways good, ∃ (pa : Addr) (pat : Pat), vs = [.ref m, .ref pa] ∧ MachR K H m rs ways good ∧ McOk ways good ∧ Small rs ∧ rs.length ≤ 10 ∧ TL K H pa (pV pat) ∧ pat.length ≤ 100 ∧
  (∀ g ∈ pat, g.length ≤ rs.length) ∧ ∀ H', Same H H' → Q (.int (countF rs ways good pat)) H'
theorem ok_counted (T : Top K mg base) : DOk P w K mg base "counted" 4 ["machine", "pattern"] (sp_counted K) := by
  have G_counts_paper := ok_counts_paper (P := P) (w := w) T
  obtain ⟨fd, F⟩ := T.D_counted
  refine ⟨fd, F.ok sc_counted (fun vs H Q E h => ?_) (fun cdv A outer s H vs Q E hr h => ?_), F.bindsN fun _ _ _ _ _ _ us hl => match us, hl with | [_, _], _ => rfl, F.kp, T.g_counted⟩
  · obtain ⟨m, rs, ways, good, pa, pat, rfl, _⟩ := h
    rfl
  · obtain ⟨m, rs, ways, good, pa, pat, rfl, M, MO, hs, h10, hpl, lpat, hgl, q⟩ := h
-- slots: 0 machine 1 pattern
-- needs: counts_paper
    refine ⟨_, PSs.nox (pss_one (ps_ret (pe_ix ix_list (pe_ix ix_list (dcall G_counts_paper (hr.mono (by decide)) (by rfl) (pa_cons (pv 0) (pa_cons (pv 1) pa_nil))) pe_int (fun _ _ => rfl)) pe_int (fun _ _ => rfl)))), ?_⟩
    refine ⟨_, rfl, _, rfl, m, rs, ways, good, pa, pat, rfl, M, MO, hs, h10, hpl, lpat, hgl, fun p H' N => ?_⟩
    obtain ⟨as, hp, nd, hrows, _⟩ := N.at_
    obtain ⟨hd, tl, e⟩ := paperF_ne rs ways good pat
    obtain ⟨a, ha, hr'⟩ := hrows.get (i := 0) (ns := hd) (by rw [e]; rfl)
    have lhd : hd.length = ways.length := paperF_rows MO pat hd (by rw [e]; exact List.mem_cons_self ..)
    have h0 : 0 < hd.length := by rw [lhd]; exact MO.pos
    have hc : countF rs ways good pat = hd[0] := by
      unfold countF
      rw [e]
      show hd.getD 0 0 = _
      rw [List.getD_eq_getElem?_getD, List.getElem?_eq_getElem h0]
      rfl
    refine ⟨p, _, _, _, rfl, rfl, sql hp, atI_nat (j := 0) (by rw [List.getElem?_map, ha]; rfl), a, _, _, _, rfl, rfl, sql hr', atI_nat (j := 0) (int_get (List.getElem?_eq_getElem h0)), ?_⟩
    rw [← hc]
    exact q H' N.same
def sp_law_whole : Sp := fun vs H Q _ => ∃ n : Int, vs = [.int n] ∧ Q (.bl true) H
theorem ok__law_whole (T : Top K mg base) : DOk P w K mg base "_law_whole" 1 ["_law_found"] sp_law_whole := by
  obtain ⟨fd, F⟩ := T.D__law_whole
  refine ⟨fd, F.ok sc__law_whole (fun vs H Q E h => ?_) (fun cdv A outer s H vs Q E hr h => ?_), F.bindsN fun _ _ _ _ _ _ us hl => match us, hl with | [_], _ => rfl, F.kp, T.g__law_whole⟩
  · obtain ⟨n, rfl, _⟩ := h
    rfl
  · obtain ⟨n, rfl, q⟩ := h
-- slots: 0 _law_found
-- needs: 
    refine ⟨_, PSs.nox (pss_one (ps_ret (pe_and (pe_callB call_isi (by rfl) T.b_isinstance (by decide +kernel) (pa_cons (pv 0) (pa_cons (pe_bltn (v := .ty "int") (by rfl) T.b_int (by decide +kernel) rfl) pa_nil))) (pe_one (pe_not (pe_callB call_isi (by rfl) T.b_isinstance (by decide +kernel) (pa_cons (pv 0) (pa_cons (pe_bltn (v := .ty "bool") (by rfl) T.b_bool (by decide +kernel) rfl) pa_nil)))))))), ?_⟩
    refine ⟨_, rfl, _, _, _, _, true, rfl, .ty _, .base (.int n), kit_ty (by decide +kernel), true, rfl, iteT ?_⟩
    refine ⟨_, rfl, _, _, _, _, false, rfl, .ty _, .base (.int n), kit_ty (by decide +kernel), false, rfl, q⟩
def sp_law_numbers : Sp := fun vs H Q _ => ∃ (a : Addr) (ns : List Int) (n : Nat), vs = [.ref a, .int n] ∧ H a = some (.lst (ns.map V.int)) ∧ ns.length = n ∧ n ≤ 1000 ∧ ∀ H', Same H H' → Q (.bl true) H'
theorem all_true (n : Nat) : (List.replicate n true).all id = true := by
  rw [List.all_eq_true]
  intro x hx
  exact List.eq_of_mem_replicate hx
theorem ok__law_numbers (T : Top K mg base) : DOk P w K mg base "_law_numbers" 2 ["_law_row_here", "_law_states"] sp_law_numbers := by
  have G__law_whole := ok__law_whole (P := P) (w := w) T
  obtain ⟨fd, F⟩ := T.D__law_numbers
  refine ⟨fd, F.ok sc__law_numbers (fun vs H Q E h => ?_) (fun cdv A outer s H vs Q E hr h => ?_), F.bindsN fun _ _ _ _ _ _ us hl => match us, hl with | [_, _], _ => rfl, F.kp, T.g__law_numbers⟩
  · obtain ⟨a, ns, n, rfl, _⟩ := h
    rfl
  · obtain ⟨a, ns, n, rfl, ha, hl, hn, q⟩ := h
    have ll : (ns.map V.int).length = n := by rw [List.length_map]; exact hl
-- slots: 0 _law_row_here 1 _law_states 2 _law_number
-- needs: _law_whole
    refine ⟨_, PSs.nox (pss_cons (ps_if (PW.pt (pw_or (pt_not (pt_val (pe_callB call_isi (by rfl) T.b_isinstance (by decide +kernel) (pa_cons (pv 0) (pa_cons (pe_bltn (v := .ty "list") (by rfl) T.b_list (by decide +kernel) rfl) pa_nil))))) (pw_or1 (pt_cmpR op_ne (pe_callB call_len (by rfl) T.b_len PySem.boot_len (pa_cons (pv 0) pa_nil)) (pv 1) (nomark _)))))
        (pss_one (ps_ret pe_bl))
        pss_nil)
      (pss_one (ps_ret (pe_callB (cr_all rfl) (by rfl) T.b_all (by decide +kernel) (pa_cons (pe_lc (own := [("_law_number", 2)]) (g := gName 2) (tt := tYes) rfl sc__law_numbers.nd (pi_list (pv 0)) (blkOk_by (N := N__law_numbers) (sc := defScope s__law_numbers) (by decide +kernel)) (fun _ _ _ _ _ => pg_name (i := 2) sc__law_numbers.nd rfl (Or.inl rfl)) (fun _ _ _ _ _ => pts_nil) (fun _ _ _ _ _ => (dcall G__law_whole (hr.mono (by decide)) (by rfl) (pa_cons (pv 2) pa_nil)))) pa_nil))))), ?_⟩
    refine ⟨_, rfl, _, _, _, _, true, rfl, .ty _, .base (.lst ha), kit_ty (by decide +kernel), true, rfl, ?_⟩
    refine iteF ⟨_, rfl, _, (ns.map V.int).length, rfl, .inl ⟨_, sql ha, rfl⟩, _, rfl, rfl, _, rfl, ?_⟩
    refine iteNS (by rw [ll]) ?_
    refine ⟨_, rfl, a, rfl, ⟨_, sql ha⟩, fun D hD => lc_list (K := K) (a := a) (xs := ns.map V.int) (fun j H' => Same H H' ∧ H' D = some (.lst ((List.replicate j true).map V.bl)))
      ⟨Same.new hD, upd_same⟩ (fun j H' _ ⟨s, _⟩ => sql (s _ _ ha)) ?_ ?_⟩
    · rintro j v H' hv ⟨SJ, hd⟩
      obtain ⟨z, hz, rfl⟩ := get_int hv
      have hj : j < (ns.map V.int).length := (List.getElem?_eq_some_iff.mp hv).1
      refine ⟨rfl, ?_⟩
      refine ⟨_, rfl, z, rfl, _, hd, ?_, SJ.mut hD, ?_⟩
      · rw [List.length_map, List.length_replicate]
        exact szl (by omega)
      · rw [upd_same, List.replicate_succ', List.map_append]
        rfl
    · rintro H' ⟨SJ, hd⟩
      refine ⟨D, _, rfl, sql hd, ?_⟩
      rw [all_true]
      exact q H' SJ
/-- a paper as it stands: a list of lists -/
def PaperR (H : Hp) (p : Addr) (rows : List (List Int)) : Prop := ∃ as : List Addr, H p = some (.lst (as.map V.ref)) ∧ Rows H as rows
theorem PaperR.mono {H H' : Hp} {p : Addr} {rows : List (List Int)} (h : PaperR H p rows) (s : Same H H') : PaperR H' p rows := by
  obtain ⟨as, e, r⟩ := h
  exact ⟨as, s _ _ e, r.keep fun a u _ e => s _ _ e⟩
def sp_law_walked (K : PySem.W.Frag) : Sp := fun vs H Q _ => ∃ m rs ways good, ∃ (ra pa p : Addr) (pat : Pat), vs = [.ref m, .ref ra, .ref pa, .ref p] ∧ MachR K H m rs ways good ∧ McOk ways good ∧ Small rs ∧ rs.length ≤ 10 ∧ TL K H ra (rV rs) ∧ TL K H pa (pV pat) ∧ pat.length ≤ 100 ∧
  (∀ g ∈ pat, g.length ≤ rs.length) ∧ PaperR H p (paperF rs ways good pat) ∧ ∀ H', Same H H' → Q (.bl true) H'
theorem ok__law_walked (T : Top K mg base) : DOk P w K mg base "_law_walked" 3 ["_law_machine", "_law_ranges_here", "_law_pattern_here", "_law_paper"] (sp_law_walked K) := by
  have G__law_numbers := ok__law_numbers (P := P) (w := w) T
  have G__law_columns := ok__law_columns (P := P) (w := w) T
  have G__law_agrees := ok__law_agrees (P := P) (w := w) T
  have G__law_sum := ok__law_sum (P := P) (w := w) T
  have G_Machine_size := ok_M_size (P := P) (w := w) T
  have G_Machine_ends := ok_M_ends (P := P) (w := w) T
  obtain ⟨fd, F⟩ := T.D__law_walked
  refine ⟨fd, F.ok sc__law_walked (fun vs H Q E h => ?_) (fun cdv A outer s H vs Q E hr h => ?_), F.bindsN fun _ _ _ _ _ _ us hl => match us, hl with | [_, _, _, _], _ => rfl, F.kp, T.g__law_walked⟩
  · obtain ⟨m, rs, ways, good, ra, pa, p, pat, rfl, _⟩ := h
    rfl
  · obtain ⟨m, rs, ways, good, ra, pa, p, pat, rfl, M, MO, hs, h10, hrl, ⟨pxs, hpl, tpx⟩, lpat, hgl, ⟨as, hp, hrows⟩, q⟩ := h
    have lx : pxs.length = pat.length := by rw [tpx.len]; exact List.length_map ..
    obtain ⟨dx, fs, sc, wl, gl, e1, e2, e3, e4, e5, e6, e7, e8, _, e11⟩ := M.ob
    have las : (as.map V.ref).length = pat.length + 1 := by rw [List.length_map, hrows.len, paperF_len]
    have few := MO.few
-- slots: 0 _law_machine 1 _law_ranges_here 2 _law_pattern_here 3 _law_paper 4 _law_states 5 _law_state 6 _law_k 7 _law_some_here 8 _law_column 9 _law_row_here
-- needs: _law_numbers _law_columns _law_agrees _law_sum Machine_size Machine_ends
    refine ⟨_, PSs.nox (pss_cons (ps_set (i := 4) sc__law_walked.nd rfl (by first | exact Or.inl rfl | exact Or.inr rfl) (mcall0 G_Machine_size (hr.mono (by decide)) (pv 0)))
      (pss_cons (ps_if (PW.pt (pw_or (pt_not (pt_val (pe_callB call_isi (by rfl) T.b_isinstance (by decide +kernel) (pa_cons (pv 3) (pa_cons (pe_bltn (v := .ty "list") (by rfl) T.b_list (by decide +kernel) rfl) pa_nil))))) (pw_or1 (pt_cmpR op_ne (pe_callB call_len (by rfl) T.b_len PySem.boot_len (pa_cons (pv 3) pa_nil)) (pe_op op_add (pe_callB call_len (by rfl) T.b_len PySem.boot_len (pa_cons (pv 2) pa_nil)) pe_int) (nomark _)))))
        (pss_one (ps_ret pe_bl))
        pss_nil)
      (pss_cons (ps_if (pt_not (pt_val (pe_callB (cr_all rfl) (by rfl) T.b_all (by decide +kernel) (pa_cons (pe_lc (own := [("_law_row_here", 9)]) (g := gName 9) (tt := tYes) rfl sc__law_walked.nd (pi_list (pv 3)) (blkOk_by (N := N__law_walked) (sc := defScope s__law_walked) (by decide +kernel)) (fun _ _ _ _ _ => pg_name (i := 9) sc__law_walked.nd rfl (Or.inl rfl)) (fun _ _ _ _ _ => pts_nil) (fun _ _ _ _ _ => (dcall G__law_numbers (hr.mono (by decide)) (by rfl) (pa_cons (pv 9) (pa_cons (pv 4) pa_nil))))) pa_nil))))
        (pss_one (ps_ret pe_bl))
        pss_nil)
      (pss_cons (ps_for PassesOwn.never rfl (pi_range1 (by rfl) T.b_range (pa_cons (pv 4) pa_nil)) (pg_name (i := 5) sc__law_walked.nd rfl (by first | exact Or.inl rfl | exact Or.inr rfl))
        (pss_one (ps_if (pt_cmpR op_ne (pe_ix ix_list (pe_ix ix_list (pv 3) (pe_un un_neg pe_int) (fun _ _ => rfl)) (pv 5) (fun _ _ => rfl)) (pe_callTy call_int1 (by rfl) T.b_int (by decide +kernel) (pa_cons (mcall G_Machine_ends (hr.mono (by decide)) (pv 0) (pa_cons (pv 5) pa_nil)) pa_nil)) (nomark _))
          (pss_one (ps_ret pe_bl))
          pss_nil)))
      (pss_cons (ps_for PassesOwn.never rfl (pi_range1 (by rfl) T.b_range (pa_cons (pe_callB call_len (by rfl) T.b_len PySem.boot_len (pa_cons (pv 2) pa_nil)) pa_nil)) (pg_name (i := 6) sc__law_walked.nd rfl (by first | exact Or.inl rfl | exact Or.inr rfl))
        (pss_cons (ps_setLc (i := 7) (own := [("_law_column", 8)]) (g := gName 8) rfl sc__law_walked.nd rfl rfl (sw_true rfl rfl rfl (by decide +kernel)) (pi_list (dcall G__law_columns (hr.mono (by decide)) (by rfl) (pa_cons (pv 1) pa_nil))) (blkOk_by (N := N__law_walked) (sc := defScope s__law_walked) (by decide +kernel)) (fun _ _ _ _ _ => pg_name (i := 8) sc__law_walked.nd rfl (Or.inl rfl)) (fun _ _ _ _ _ => pts_one (pt_val (dcall G__law_agrees (hr.mono (by decide)) (by rfl) (pa_cons (pv 8) (pa_cons (pe_ix (show IxR _ (rIxL K) from ix_list) (pv 2) (pv 6) (fun _ _ => rfl)) pa_nil))))) (fun _ _ _ _ _ => (pv 8)))
        (pss_one (ps_for PassesOwn.never rfl (pi_range1 (by rfl) T.b_range (pa_cons (pv 4) pa_nil)) (pg_name (i := 5) sc__law_walked.nd rfl (by first | exact Or.inl rfl | exact Or.inr rfl))
          (pss_one (ps_if (pt_cmpR op_ne (pe_ix ix_list (pe_ix ix_list (pv 3) (pv 6) (fun _ _ => rfl)) (pv 5) (fun _ _ => rfl)) (dcall G__law_sum (hr.mono (by decide)) (by rfl) (pa_cons (pv 0) (pa_cons (pv 5) (pa_cons (pv 7) (pa_cons (pe_ix ix_list (pv 3) (pe_op op_add (pv 6) pe_int) (fun _ _ => rfl)) pa_nil))))) (nomark _))
            (pss_one (ps_ret pe_bl))
            pss_nil))))))
      (pss_one (ps_ret pe_bl))))))), ?_⟩
    -- states = machine.size()
    refine ⟨_, rfl, m, dx, fs, rfl, e1, e5, m, rs, ways, good, rfl, M, ?_⟩
    -- not isinstance(paper, list) or len(paper) != len(pattern) + 1
    refine ⟨_, rfl, _, _, _, _, true, rfl, .ty _, .base (.lst hp), kit_ty (by decide +kernel), true, rfl, ?_⟩
    refine iteF ⟨_, rfl, _, (as.map V.ref).length, rfl, .inl ⟨_, sql hp, rfl⟩, _, rfl, _, pxs.length, rfl, .inl ⟨_, hpl, rfl⟩, _, _, rfl, rfl, rfl, _, rfl, ?_⟩
    refine iteNS (by rw [las, lx]; rfl) ?_
    -- not all([..])
    refine ⟨_, rfl, p, rfl, ⟨_, sql hp⟩, fun D hD => lc_list (K := K) (a := p) (xs := as.map V.ref) (fun j H' => Same H H' ∧ H' D = some (.lst ((List.replicate j true).map V.bl)))
      ⟨Same.new hD, upd_same⟩ (fun j H' _ ⟨s, _⟩ => sql (s _ _ hp)) ?_ ?_⟩
    · rintro j v H' hv ⟨SJ, hd⟩
      have hj : j < (as.map V.ref).length := (List.getElem?_eq_some_iff.mp hv).1
      have hj2 : j < (paperF rs ways good pat).length := by rw [paperF_len]; omega
      obtain ⟨a, ha, hra⟩ := hrows.get (List.getElem?_eq_getElem hj2)
      rw [List.getElem?_map, ha] at hv
      cases hv
      refine ⟨rfl, ?_⟩
      refine ⟨_, rfl, _, rfl, a, _, ways.length, rfl, SJ _ _ hra, paperF_rows MO pat _ (List.getElem_mem hj2), few, fun H2 S2 => ⟨_, S2 _ _ hd, ?_, (SJ.trans S2).mut hD, ?_⟩⟩
      · rw [List.length_map, List.length_replicate]
        exact szl (by omega)
      · rw [upd_same, List.replicate_succ', List.map_append]
        rfl
    · rintro H1 ⟨S1, hd⟩
      refine ⟨D, _, rfl, sql hd, ?_⟩
      rw [all_true]
      refine ⟨true, rfl, iteF ?_⟩
      -- for state in range(states): the last row
      obtain ⟨ini, elast⟩ := paperF_last rs ways good pat
      have hrl2 : Rows H as (ini ++ [lastF good]) := by rw [← elast]; exact hrows
      obtain ⟨as', al, eas, _, hal⟩ := paired_unsnoc hrl2
      have hlast : atI (as.map V.ref) (-1) = some (.ref al) := by
        rw [eas, List.map_append]
        exact atI_last _ _
      refine ⟨_, rfl, (ways.length : Nat), rfl, by omega, by omega, ?_⟩
      refine for_range (lo := 0) (n := ways.length) (fun i σ H' => ∃ (x5 x6 x7 x8 x9 : Option V), σ = [some (.ref m), some (.ref ra), some (.ref pa), some (.ref p), some (.int (ways.length : Nat)), x5, x6, x7, x8, x9] ∧ Same H H')
        ⟨_, _, _, _, _, rfl, S1⟩ ?_ ?_
      · rintro i σ H' hi ⟨x5, x6, x7, x8, x9, rfl, SI⟩
        have hig : i < good.length := by rw [MO.len]; exact hi
        have ei : (0 : Int) + (i : Nat) = (i : Nat) := by omega
        have hl : (lastF good)[i]? = some (if good[i] = true then 1 else 0) := by
          unfold lastF
          rw [List.getElem?_map, List.getElem?_eq_getElem hig]
          rfl
        refine ⟨_, rfl, _, rfl, p, _, _, _, rfl, rfl, sql (SI _ _ hp), hlast, _, rfl, al, _, _, _, rfl, rfl, sql (SI _ _ hal), at_of ei (int_get hl), _, rfl, m, dx, fs, rfl, SI _ _ e1, e7, _, rfl, m, rs, ways, good, i, good[i], ?_, M.mono SI, List.getElem?_eq_getElem hig, .inr ⟨_, rfl, rfl, _, rfl, ?_⟩⟩
        · show [V.ref m, V.int (0 + (i : Nat))] = _
          rw [Int.zero_add]
        · exact iteNS rfl ⟨_, _, _, _, _, rfl, SI⟩
      · rintro σ H2 ⟨x5, x6, x7, x8, x9, rfl, S2⟩
        -- for k in range(len(pattern))
        refine ⟨_, rfl, _, pxs.length, rfl, .inl ⟨_, S2.seq hpl, rfl⟩, (pxs.length : Nat), rfl, by omega, by omega, ?_⟩
        refine for_range (lo := 0) (n := pxs.length) (fun i σ H' => ∃ (x5 x6 x7 x8 x9 : Option V), σ = [some (.ref m), some (.ref ra), some (.ref pa), some (.ref p), some (.int (ways.length : Nat)), x5, x6, x7, x8, x9] ∧ Same H H')
          ⟨_, _, _, _, _, rfl, S2⟩ ?_ ?_
        · rintro k σ H' hk ⟨x5, x6, x7, x8, x9, rfl, SK⟩
          have ek : (0 : Int) + (k : Nat) = (k : Nat) := by omega
          have hk2 : k < pat.length := by omega
          obtain ⟨ga, hga1, hga2⟩ := (tpx.mono SK.tk).get (i := k) (c := gV pat[k]) (by unfold pV; rw [List.getElem?_map, List.getElem?_eq_getElem hk2]; rfl)
          have hgm : pat[k] ∈ pat := List.getElem_mem hk2
          -- some = [column for column in columns(ranges) if agrees(column, pattern[k])]
          refine ⟨_, rfl, ra, rs, rfl, hrl.mono SK, hs, fun cp H3 N => ?_⟩
          obtain ⟨S3, np, xs, hcp, tx⟩ := N
          refine ⟨cp, rfl, ⟨_, sql hcp⟩, fun D3 hD3 => lc_list (K := K) (a := cp) (xs := xs) (fun j H4 => Same H3 H4 ∧ ∃ ys, H4 D3 = some (.lst ys) ∧ Tups H4 ys (cV (((cols rs).take j).filter fun c => agr c pat[k])))
            ⟨Same.new hD3, [], upd_same, .nil⟩ (fun j H4 _ ⟨s, _⟩ => sql (s _ _ hcp)) ?_ ?_⟩
          · rintro j v H4 hv ⟨SJ, ys, hy, ty⟩
            obtain ⟨ca, cc, rfl, hcc, hca⟩ := (tx.mono SJ.tk).getV hv
            obtain ⟨c, hcj, rfl⟩ : ∃ c, (cols rs)[j]? = some c ∧ cc = iV c := by
              unfold cV at hcc
              rw [List.getElem?_map] at hcc
              cases e : (cols rs)[j]? with
              | none => rw [e] at hcc; cases hcc
              | some c => rw [e] at hcc; exact ⟨c, rfl, (Option.some.inj hcc).symm⟩
            have lc : c.length = rs.length := cols_len (List.mem_of_getElem? hcj)
            have hnx : ((cols rs).take (j + 1)).filter (fun c => agr c pat[k]) = ((cols rs).take j).filter (fun c => agr c pat[k]) ++ [c].filter (fun c => agr c pat[k]) := by
              rw [take_more hcj, List.filter_append]
            have lg := hgl _ hgm
            have S4 : Same H H4 := (SK.trans S3).trans SJ
            refine ⟨rfl, _, rfl, _, rfl, _, rfl, pa, _, _, _, rfl, rfl, S4.seq hpl, at_of ek hga1, ca, ga, c, pat[k], rfl, hca, SJ _ _ (S3 _ _ hga2), by omega, by omega, _, rfl, ?_⟩
            cases e : agr c pat[k] with
            | true =>
              refine iteT ⟨_, rfl, ys, hy, ?_, SJ.mut hD3, ys ++ [.ref ca], upd_same, ?_⟩
              · have l1 : ys.length ≤ 1000 := by
                  rw [ty.len]
                  unfold cV
                  rw [List.length_map]
                  refine Nat.le_trans (List.length_filter_le ..) ?_
                  rw [List.length_take]
                  exact Nat.le_trans (Nat.min_le_right ..) (small_cols hs)
                exact szl (by omega)
              · rw [hnx, show [c].filter (fun c => agr c pat[k]) = [c] by simp [e]]
                unfold cV
                rw [List.map_append]
                exact (ty.mono (TK.lst hy)).snoc (TK.lst hy _ _ hca)
            | false =>
              refine iteF ⟨SJ, ys, hy, ?_⟩
              rw [hnx, show [c].filter (fun c => agr c pat[k]) = [] by simp [e], List.append_nil]
              exact ty
          · rintro H4 ⟨SJ, ys, hy, ty⟩
            have ty2 : Tups H4 ys (cV (offF rs pat[k])) := by
              rw [tx.len, show (cV (cols rs)).length = (cols rs).length from List.length_map .., List.take_length] at ty
              exact ty
            have S4 : Same H H4 := (SK.trans S3).trans SJ
            obtain ⟨ns, hn1, hn0⟩ := paperF_at (rs := rs) (ways := ways) (good := good) (List.getElem?_eq_getElem hk2)
            obtain ⟨a1, ha1, hr1⟩ := hrows.get hn1
            obtain ⟨a0, ha0, hr0⟩ := hrows.get hn0
            have ln : ns.length = ways.length := paperF_rows MO pat _ (List.mem_of_getElem? hn1)
            -- for state in range(states)
            refine ⟨_, rfl, (ways.length : Nat), rfl, by omega, by omega, ?_⟩
            refine for_range (lo := 0) (n := ways.length) (fun i σ H' => ∃ (x5 x9 x8 : Option V), σ = [some (.ref m), some (.ref ra), some (.ref pa), some (.ref p), some (.int (ways.length : Nat)), x5, some (.int (0 + (k : Nat))), some (.ref D3), x8, x9] ∧ Same H4 H')
              ⟨_, _, _, rfl, Same.refl _⟩ ?_ ?_
            · rintro i σ H' hi ⟨x5, x9, x8, rfl, SI⟩
              have ei : (0 : Int) + (i : Nat) = (i : Nat) := by omega
              have ek1 : (0 : Int) + (k : Nat) + 1 = ((k + 1 : Nat) : Int) := by omega
              have S5 : Same H H' := S4.trans SI
              have hp' : H' p = some (.lst (as.map V.ref)) := S5 _ _ hp
              refine ⟨_, rfl, _, rfl, p, _, _, _, rfl, rfl, sql hp', at_of ek (by rw [List.getElem?_map, ha0]; rfl), _, rfl, a0, _, _, _, rfl, rfl, sql (S5 _ _ hr0), at_of ei (int_get (rowF_at hi)), _, rfl, _, rfl, _, rfl, _, rfl, _, rfl, _, _, rfl, rfl, p, _, _, _, rfl, rfl, sql hp',
                at_of ek1 (by rw [List.getElem?_map, ha1]; rfl), m, rs, ways, good, i, D3, a1, offF rs pat[k], ns, ?_, M.mono S5, MO, hi, ⟨ys, sql (SI _ _ hy), ty2.mono SI.tk⟩, sql (S5 _ _ hr1), ln, rfl, _, rfl, ?_⟩
              · show [V.ref m, V.int (0 + (i : Nat)), V.ref D3, V.ref a1] = _
                rw [Int.zero_add]
              · exact iteNS rfl ⟨_, _, _, rfl, SI⟩
            · rintro σ H' ⟨x5, x9, x8, rfl, SI⟩
              exact ⟨_, _, _, _, _, rfl, S4.trans SI⟩
        · rintro σ H' ⟨x5, x6, x7, x8, x9, rfl, SK⟩
          exact q H' SK
end
end Fv
set_option Elab.async false
set_option linter.all false
set_option maxRecDepth 100000
set_option maxHeartbeats 4000000
/-! Whole numbers as texts. -/
namespace Fv
open PySem PySem.Spec PyProof.Rows L2 _root_.TL
/-- a number's text -/
def nS (n : Int) : Str := Str.ofString (toString n)
theorem nS_nat (m : Nat) : tl (nS (m : Nat)) = numL m := tl_num m
theorem nS_neg (m : Nat) : tl (nS (Int.negSucc m)) = 45 :: numL (m + 1) := by
  unfold nS
  rw [tl_ofString]
  have e : (toString (Int.negSucc m)) = "-" ++ Nat.repr (m + 1) := rfl
  rw [e, String.toList_append, List.map_append]
  have e2 : (Nat.repr (m + 1)).toList.map Char.toNat = numL (m + 1) := by
    unfold numL
    rw [Nat.toList_repr]
  rw [e2]
  rfl
theorem nS_len {n : Int} (h : n.natAbs < 10 ^ 40) : (tl (nS n)).length ≤ 41 := by
  cases n with
  | ofNat m =>
    have h1 : tl (nS (Int.ofNat m)) = numL m := nS_nat m
    rw [h1]
    have := numL_len (n := m) (k := 40) (by decide) h
    omega
  | negSucc m =>
    rw [nS_neg, List.length_cons]
    have := numL_len (n := m + 1) (k := 40) (by decide) h
    omega
theorem nS_len2 {n : Int} (h : n.natAbs < 10 ^ 40) : (nS n).length ≤ 41 := by
  rw [len_tl]
  exact nS_len h
theorem nS_read {n : Int} (h : n.natAbs < 10 ^ 40) : intText? (nS n) = some n := by
  cases n with
  | ofNat m =>
    exact int_num (by have := numL_len (n := m) (k := 40) (by decide) h; omega)
  | negSucc m =>
    have hl := numL_len (n := m + 1) (k := 40) (by decide) h
    have e := intText_neg (x := nS (Int.negSucc m)) (cs := numL (m + 1)) (nS_neg m) (numL_digits _) (numL_ne _) (by rw [len_tl, nS_neg, List.length_cons]; omega)
    rw [numL_val] at e
    exact e
/-- no blank, no line end, no comma in a number's text -/
theorem nS_free {n : Int} {s : Nat} (h : s < 45 ∨ (45 < s ∧ s < 48) ∨ 57 < s) : s ∉ tl (nS n) := by
  cases n with
  | ofNat m =>
    have h1 : tl (nS (Int.ofNat m)) = numL m := nS_nat m
    rw [h1]
    exact numL_free (by omega)
  | negSucc m =>
    rw [nS_neg]
    intro hm
    rcases List.mem_cons.mp hm with e | hm
    · omega
    · exact numL_free (s := s) (by omega) hm
/-- the first figure is no nought, but in 0 -/
theorem numL_first : ∀ n : Nat, 0 < n → ∃ c cs, numL n = c :: cs ∧ c ≠ 48 := by
  intro n
  induction n using Nat.strongRecOn with
  | _ n ih =>
    intro hn
    by_cases h : n < 10
    · refine ⟨48 + n, [], numL_lt h, by omega⟩
    · obtain ⟨c, cs, e, hc⟩ := ih (n / 10) (by omega) (by omega)
      exact ⟨c, cs ++ [48 + n % 10], by rw [numL_step (by omega), e]; rfl, hc⟩
theorem cut_all (z : Str) : tl (cutS z (some 1) none) = (tl z).drop 1 := by
  show ((z.cps.toList.drop (HT.sIx z.length 0 (some 1))).take (HT.sIx z.length z.length none - HT.sIx z.length 0 (some 1))) = _
  rw [show HT.sIx z.length 0 (some 1) = min 1 z.length from HT.sIx_nat z.length 0 1, HT.sIx_none]
  have hl : z.length = (tl z).length := len_tl z
  cases e : tl z with
  | nil =>
    have e1 : z.cps.toList = [] := e
    rw [e1]
    simp
  | cons c cs =>
    have e1 : z.cps.toList = c :: cs := e
    have h1 : z.length = cs.length + 1 := by rw [hl, e]; rfl
    rw [e1, h1, show min 1 (cs.length + 1) = 1 by omega]
    show cs.take (cs.length + 1 - 1) = cs
    rw [Nat.add_sub_cancel, List.take_length]
theorem cut_one (z : Str) : tl (cutS z none (some 1)) = (tl z).take 1 := by
  show ((z.cps.toList.drop (HT.sIx z.length 0 none)).take (HT.sIx z.length z.length (some 1) - HT.sIx z.length 0 none)) = _
  rw [show HT.sIx z.length z.length (some 1) = min 1 z.length from HT.sIx_nat z.length z.length 1, HT.sIx_none, Nat.sub_zero, List.drop_zero]
  have hl : z.length = (tl z).length := len_tl z
  cases e : tl z with
  | nil =>
    have e1 : z.cps.toList = [] := e
    rw [e1]
    simp
  | cons c cs =>
    have e1 : z.cps.toList = c :: cs := e
    have h1 : z.length = cs.length + 1 := by rw [hl, e]; rfl
    rw [e1, h1, show min 1 (cs.length + 1) = 1 by omega]
theorem str_ne {x y : Str} (h : tl x ≠ tl y) : decide (V.str x = V.str y) = false := decide_eq_false fun e => h (congrArg tl (V.str.inj e))
theorem str_eq {x y : Str} (h : tl x = tl y) : decide (V.str x = V.str y) = true := decide_eq_true (congrArg V.str (ext_tl h))
theorem tl_minus : tl ("-" : Str) = [45] := by decide +kernel
theorem tl_nought : tl ("0" : Str) = [48] := by decide +kernel
theorem tl_empty : tl ("" : Str) = [] := by decide +kernel
theorem tl_figures : tl ("0123456789" : Str) = [48, 49, 50, 51, 52, 53, 54, 55, 56, 57] := by decide +kernel
end Fv
set_option Elab.async false
set_option linter.all false
set_option maxRecDepth 100000
set_option maxHeartbeats 4000000
/-! Reading: numbers. -/
namespace Fv
open PySem PySem.Spec PyProof.Rows L2 _root_.TL
section
variable {P : Program} {w : World} {K : PySem.W.Frag} {mg : Str → Option Value} {base : Heap}
def sp_is_number : Sp := fun vs H Q _ => ∃ n : Int, vs = [.str (nS n)] ∧ n.natAbs < 10 ^ 40 ∧ Q (.bl true) H
/-- what is asked of the figures, once the sign is off -/
theorem fig_ok {fg : Str} {m : Nat} (e : tl fg = numL m) (h : m < 10 ^ 40) : decide (V.str fg = V.str ("" : Str)) = false ∧ fg.length ≤ 40 ∧ (∃ c cs, tl fg = c :: cs ∧ (c = 48 → cs = [])) ∧ ∀ (i c : Nat), fg.cps[i]? = some c → c ∈ tl ("0123456789" : Str) := by
  have hl := numL_len (n := m) (k := 40) (by decide) h
  refine ⟨str_ne (by rw [e, tl_empty]; exact numL_ne m), by rw [len_tl, e]; exact hl, ?_, fun i c hc => ?_⟩
  · by_cases h0 : m = 0
    · refine ⟨48, [], ?_, fun _ => rfl⟩
      rw [e, h0, numL_lt (by decide)]
    · obtain ⟨c, cs, e1, e2⟩ := numL_first m (by omega)
      exact ⟨c, cs, by rw [e, e1], fun z => absurd z e2⟩
  · have hm : c ∈ tl fg := by
      have h1 : (tl fg)[i]? = some c := by
        show fg.cps.toList[i]? = some c
        rw [Array.getElem?_toList]
        exact hc
      exact List.mem_of_getElem? h1
    rw [e] at hm
    have r := numL_digits m c hm
    rw [tl_figures]
    have : c = 48 ∨ c = 49 ∨ c = 50 ∨ c = 51 ∨ c = 52 ∨ c = 53 ∨ c = 54 ∨ c = 55 ∨ c = 56 ∨ c = 57 := by omega
    simp only [List.mem_cons, List.not_mem_nil, or_false]
    exact this
theorem ok_is_number (T : Top K mg base) : DOk P w K mg base "is_number" 1 ["word"] sp_is_number := by
  obtain ⟨fd, F⟩ := T.D_is_number
  refine ⟨fd, F.ok sc_is_number (fun vs H Q E h => ?_) (fun cdv A outer s H vs Q E hr h => ?_), F.bindsN fun _ _ _ _ _ _ us hl => match us, hl with | [_], _ => rfl, F.kp, T.g_is_number⟩
  · obtain ⟨n, rfl, _⟩ := h
    rfl
  · obtain ⟨n, rfl, hn, q⟩ := h
    have hlen := nS_len2 hn
-- slots: 0 word 1 figures 2 sign
-- needs: 
    refine ⟨_, PSs.nox (pss_cons (ps_set (i := 1) sc_is_number.nd rfl (by first | exact Or.inl rfl | exact Or.inr rfl) (pv 0))
      (pss_cons (ps_if (pt_cmpR op_eq (pe_slice sl_str (pv 0) po_none (po_some pe_int)) pe_str (nomark _))
        (pss_cons (ps_set (i := 1) sc_is_number.nd rfl (by first | exact Or.inl rfl | exact Or.inr rfl) (pe_slice sl_str (pv 0) (po_some pe_int) po_none))
        (pss_one (ps_if (pt_cmpR op_eq (pv 1) pe_str (nomark _))
          (pss_one (ps_ret pe_bl))
          pss_nil)))
        pss_nil)
      (pss_cons (ps_if (PW.pt (pw_or (pt_cmpR op_eq (pv 1) pe_str (nomark _)) (pw_or1 (pt_cmpR op_gt (pe_callB call_len (by rfl) T.b_len PySem.boot_len (pa_cons (pv 1) pa_nil)) (pe_gi rfl T.i_MOST_words) (nomark _)))))
        (pss_one (ps_ret pe_bl))
        pss_nil)
      (pss_cons (ps_if (PW.pt (pw_and (pt_cmpR op_eq (pe_ix ix_str (pv 1) pe_int (fun _ _ => rfl)) pe_str (nomark _)) (pw_and1 (pt_cmpR op_gt (pe_callB call_len (by rfl) T.b_len PySem.boot_len (pa_cons (pv 1) pa_nil)) pe_int (nomark _)))))
        (pss_one (ps_ret pe_bl))
        pss_nil)
      (pss_cons (ps_for PassesOwn.never rfl (pi_str (pv 1)) (pg_name (i := 2) sc_is_number.nd rfl (by first | exact Or.inl rfl | exact Or.inr rfl))
        (pss_one (ps_if (pt_cmpR op_notIn_sign (pv 2) (pe_gs rfl T.t_FIGURES) (by rfl))
          (pss_one (ps_ret pe_bl))
          pss_nil)))
      (pss_one (ps_ret pe_bl))))))), ?_⟩
    refine ⟨_, rfl, ?_⟩
    cases n with
    | ofNat m =>
      have e : tl (nS (Int.ofNat m)) = numL m := nS_nat m
      obtain ⟨h1, h2, ⟨c0, cs0, h3, h3'⟩, h4⟩ := fig_ok e hn
      have hno : decide (V.str (cutS (nS (Int.ofNat m)) none (some 1)) = V.str ("-" : Str)) = false := str_ne (by
        rw [cut_one, tl_minus, h3]
        intro z
        have z1 : [c0] = [45] := z
        injection z1 with z2
        have r := numL_digits m c0 (by rw [← e, h3]; exact List.mem_cons_self ..)
        omega)
      refine ⟨_, rfl, 1, rfl, _, rfl, sz (by omega), rfl, _, rfl, ?_⟩
      rw [hno]
      refine iteF ?_
      refine ⟨_, rfl, rfl, _, rfl, ?_⟩
      rw [h1]
      refine iteF ⟨_, rfl, _, _, rfl, ⟨sz (by omega), rfl⟩, _, _, rfl, rfl, _, rfl, ?_⟩
      rw [decide_eq_false (by omega)]
      refine iteF ?_
      refine ⟨_, rfl, _, 0, c0, rfl, rfl, sz (by omega), atI_nat (j := 0) (congrArg (fun l : List Nat => l[0]?) h3), rfl, _, rfl, ?_⟩
      by_cases hc : c0 = 48
      · rw [str_eq (x := ⟨#[c0]⟩) (y := ("0" : Str)) (by rw [tl_nought, hc])]
        have l1 := congrArg List.length h3
        rw [← len_tl, h3' hc, List.length_cons, List.length_nil] at l1
        refine iteT ⟨_, rfl, _, _, rfl, ⟨sz (by omega), rfl⟩, _, _, rfl, rfl, _, rfl, ?_⟩
        rw [decide_eq_false (by omega)]
        refine iteF ?_
        refine ⟨_, rfl, _, rfl, for_it walk_str (fun i σ H' => (∃ x2 : Option V, σ = [some (.str _), some (.str _), x2]) ∧ H' = H) ⟨⟨_, rfl⟩, rfl⟩ (fun _ _ _ _ _ => True.intro) ?_ ?_⟩
        · rintro i v σ H' H'' hi ⟨⟨x2, rfl⟩, rfl⟩ ⟨rfl, c, hc2, rfl⟩
          refine ⟨_, rfl, c, _, rfl, rfl, _, rfl, ?_⟩
          rw [decide_eq_true (h4 i c hc2)]
          exact iteF ⟨⟨_, rfl⟩, rfl⟩
        · rintro σ H' ⟨⟨x2, rfl⟩, rfl⟩
          exact q
      · rw [str_ne (x := ⟨#[c0]⟩) (y := ("0" : Str)) (by rw [tl_nought]; intro z; injection z with z1; exact hc z1)]
        refine iteF (iteF ?_)
        refine ⟨_, rfl, _, rfl, for_it walk_str (fun i σ H' => (∃ x2 : Option V, σ = [some (.str _), some (.str _), x2]) ∧ H' = H) ⟨⟨_, rfl⟩, rfl⟩ (fun _ _ _ _ _ => True.intro) ?_ ?_⟩
        · rintro i v σ H' H'' hi ⟨⟨x2, rfl⟩, rfl⟩ ⟨rfl, c, hc2, rfl⟩
          refine ⟨_, rfl, c, _, rfl, rfl, _, rfl, ?_⟩
          rw [decide_eq_true (h4 i c hc2)]
          exact iteF ⟨⟨_, rfl⟩, rfl⟩
        · rintro σ H' ⟨⟨x2, rfl⟩, rfl⟩
          exact q
    | negSucc m =>
      have e0 := nS_neg m
      have e : tl (cutS (nS (Int.negSucc m)) (some 1) none) = numL (m + 1) := by
        rw [cut_all, e0]
        rfl
      obtain ⟨h1, h2, ⟨c0, cs0, h3, h3'⟩, h4⟩ := fig_ok e hn
      have hyes : decide (V.str (cutS (nS (Int.negSucc m)) none (some 1)) = V.str ("-" : Str)) = true := str_eq (by
        rw [cut_one, tl_minus, e0]
        rfl)
      have hno : decide (V.str (cutS (nS (Int.negSucc m)) (some 1) none) = V.str ("0" : Str)) = false := str_ne (by
        obtain ⟨c, cs, f1, f2⟩ := numL_first (m + 1) (by omega)
        rw [e, tl_nought, f1]
        intro z
        injection z with z1
        exact f2 z1)
      refine ⟨_, rfl, 1, rfl, _, rfl, sz (by omega), rfl, _, rfl, ?_⟩
      rw [hyes]
      refine iteT ⟨_, rfl, 1, rfl, _, rfl, sz (by omega), _, rfl, rfl, _, rfl, ?_⟩
      rw [hno]
      refine iteF ?_
      refine ⟨_, rfl, rfl, _, rfl, ?_⟩
      rw [h1]
      refine iteF ⟨_, rfl, _, _, rfl, ⟨sz (by omega), rfl⟩, _, _, rfl, rfl, _, rfl, ?_⟩
      rw [decide_eq_false (by omega)]
      refine iteF ?_
      refine ⟨_, rfl, _, 0, c0, rfl, rfl, sz (by omega), atI_nat (j := 0) (congrArg (fun l : List Nat => l[0]?) h3), rfl, _, rfl, ?_⟩
      by_cases hc : c0 = 48
      · rw [str_eq (x := ⟨#[c0]⟩) (y := ("0" : Str)) (by rw [tl_nought, hc])]
        have l1 := congrArg List.length h3
        rw [← len_tl, h3' hc, List.length_cons, List.length_nil] at l1
        refine iteT ⟨_, rfl, _, _, rfl, ⟨sz (by omega), rfl⟩, _, _, rfl, rfl, _, rfl, ?_⟩
        rw [decide_eq_false (by omega)]
        refine iteF ?_
        refine ⟨_, rfl, _, rfl, for_it walk_str (fun i σ H' => (∃ x2 : Option V, σ = [some (.str _), some (.str _), x2]) ∧ H' = H) ⟨⟨_, rfl⟩, rfl⟩ (fun _ _ _ _ _ => True.intro) ?_ ?_⟩
        · rintro i v σ H' H'' hi ⟨⟨x2, rfl⟩, rfl⟩ ⟨rfl, c, hc2, rfl⟩
          refine ⟨_, rfl, c, _, rfl, rfl, _, rfl, ?_⟩
          rw [decide_eq_true (h4 i c hc2)]
          exact iteF ⟨⟨_, rfl⟩, rfl⟩
        · rintro σ H' ⟨⟨x2, rfl⟩, rfl⟩
          exact q
      · rw [str_ne (x := ⟨#[c0]⟩) (y := ("0" : Str)) (by rw [tl_nought]; intro z; injection z with z1; exact hc z1)]
        refine iteF (iteF ?_)
        refine ⟨_, rfl, _, rfl, for_it walk_str (fun i σ H' => (∃ x2 : Option V, σ = [some (.str _), some (.str _), x2]) ∧ H' = H) ⟨⟨_, rfl⟩, rfl⟩ (fun _ _ _ _ _ => True.intro) ?_ ?_⟩
        · rintro i v σ H' H'' hi ⟨⟨x2, rfl⟩, rfl⟩ ⟨rfl, c, hc2, rfl⟩
          refine ⟨_, rfl, c, _, rfl, rfl, _, rfl, ?_⟩
          rw [decide_eq_true (h4 i c hc2)]
          exact iteF ⟨⟨_, rfl⟩, rfl⟩
        · rintro σ H' ⟨⟨x2, rfl⟩, rfl⟩
          exact q
end
end Fv
set_option Elab.async false
set_option linter.all false
set_option maxRecDepth 100000
set_option maxHeartbeats 4000000
/-! Reading: small defs; the rules' makers. -/
namespace Fv
open PySem PySem.Spec PyProof.Rows L2
/-! ### fields in the order of their stores -/
def mkF (ps : List (Str × V)) : List (Str × V) := ps.foldl (fun fs p => putF p.1 p.2 fs) []
theorem flen {f : Str} {v : V} : ∀ {fs : List (Str × V)} {n : Nat}, fs.length ≤ n → (putF f v fs).length ≤ n + 1
  | [], n, _ => by
    show 1 ≤ n + 1
    omega
  | (g, x) :: r, n, h => by
    unfold putF
    split
    · rw [List.length_cons] at h ⊢
      omega
    · rw [List.length_cons] at h ⊢
      have := flen (f := f) (v := v) (fs := r) (n := r.length) (Nat.le_refl _)
      omega
theorem lookup_memS {n : Str} {u : V} : ∀ {l : List (Str × V)}, l.lookup n = some u → (n, u) ∈ l
  | [], h => by cases h
  | (m, v) :: r, h => by
    rw [List.lookup_cons] at h
    by_cases e : n = m
    · subst e
      rw [beq_self_eq_true] at h
      have h2 : v = u := Option.some.inj h
      rw [h2]
      exact List.mem_cons_self ..
    · rw [show (n == m) = false from beq_eq_false_iff_ne.mpr e] at h
      exact List.mem_cons_of_mem _ (lookup_memS h)
theorem mkF_go (n : Str) : ∀ (ps fs : List (Str × V)), (ps.map (·.1)).Nodup → (∀ p ∈ ps, fs.lookup p.1 = none) → (ps.foldl (fun fs p => putF p.1 p.2 fs) fs).lookup n = (match ps.lookup n with | some v => some v | none => fs.lookup n)
  | [], fs, _, _ => rfl
  | (m, v) :: ps, fs, hn, hf => by
    have hn1 : (m :: ps.map (·.1)).Nodup := hn
    obtain ⟨h1, h2⟩ := List.nodup_cons.mp hn1
    rw [List.foldl_cons, mkF_go n ps (putF m v fs) h2 fun p hp => by
      have hne : ¬ p.1 = m := fun e => h1 (e ▸ List.mem_map.mpr ⟨p, hp, rfl⟩)
      rw [lookup_putF, if_neg hne]
      exact hf p (List.mem_cons_of_mem _ hp)]
    by_cases e : n = m
    · subst e
      have h3 : ps.lookup n = none := by
        cases q : ps.lookup n with
        | none => rfl
        | some u =>
          have h4 : (n, u) ∈ ps := lookup_memS q
          exact absurd (List.mem_map.mpr ⟨_, h4, rfl⟩) h1
      rw [h3, List.lookup_cons_self]
      show (putF n v fs).lookup n = some v
      rw [lookup_putF, if_pos rfl]
    · have h5 : ((m, v) :: ps).lookup n = ps.lookup n := by
        rw [List.lookup_cons]
        rw [show (n == m) = false from beq_eq_false_iff_ne.mpr e]
      rw [h5, lookup_putF, if_neg e]
theorem mkF_lookup {ps : List (Str × V)} (n : Str) (h : (ps.map (·.1)).Nodup) : (mkF ps).lookup n = ps.lookup n := by
  unfold mkF
  rw [mkF_go n ps [] h fun _ _ => rfl]
  cases ps.lookup n <;> rfl
theorem lk_eq {n : Str} {v : V} {r : List (Str × V)} : ((n, v) :: r).lookup n = some v := List.lookup_cons_self
theorem lk_ne {n m : Str} {v : V} {r : List (Str × V)} {o : Option V} (h : (n == m) = false) (e : r.lookup n = o) : ((m, v) :: r).lookup n = o := by
  rw [List.lookup_cons, h]
  exact e
section
variable {P : Program} {w : World} {K : PySem.W.Frag} {mg : Str → Option Value} {base : Heap}
def sp_look_at : Sp := fun vs H Q _ => ∃ r : V, vs = [.bl true, r] ∧ Q .non H
theorem ok_look_at (T : Top K mg base) : DOk P w K mg base "look_at" 1 ["good", "row"] sp_look_at := by
  obtain ⟨fd, F⟩ := T.D_look_at
  refine ⟨fd, F.ok sc_look_at (fun vs H Q E h => ?_) (fun cdv A outer s H vs Q E hr h => ?_), F.bindsN fun _ _ _ _ _ _ us hl => match us, hl with | [_, _], _ => rfl, F.kp, T.g_look_at⟩
  · obtain ⟨r, rfl, _⟩ := h
    rfl
  · obtain ⟨r, rfl, q⟩ := h
-- slots: 0 good 1 row
-- needs: 
    refine ⟨_, PSs.nox (pss_one (ps_if (pt_not (pt_val (pv 0)))
        (pss_one ps_never)
        pss_nil)), ?_⟩
    exact ⟨_, rfl, true, rfl, iteF q⟩
def sp_some_of (K : PySem.W.Frag) : Sp := fun vs H Q _ => ∃ (a : Addr) (ns : List Int) (r : V), vs = [.ref a, r] ∧ SqL K H a (ns.map V.int) ∧ 1 ≤ ns.length ∧ ns.length ≤ 12 ∧ ∀ p, H p = none → Q (.ref p) (upd H p (.lst (ns.map V.int)))
theorem ok_some_of (T : Top K mg base) : DOk P w K mg base "some_of" 1 ["numbers", "row"] (sp_some_of K) := by
  obtain ⟨fd, F⟩ := T.D_some_of
  refine ⟨fd, F.ok sc_some_of (fun vs H Q E h => ?_) (fun cdv A outer s H vs Q E hr h => ?_), F.bindsN fun _ _ _ _ _ _ us hl => match us, hl with | [_, _], _ => rfl, F.kp, T.g_some_of⟩
  · obtain ⟨a, ns, r, rfl, _⟩ := h
    rfl
  · obtain ⟨a, ns, r, rfl, hS, h1, h2, q⟩ := h
    have ll : (ns.map V.int).length = ns.length := List.length_map ..
-- slots: 0 numbers 1 row
-- needs: 
    refine ⟨_, PSs.nox (pss_cons (ps_if (PW.pt (pw_or (pt_cmpR op_lt (pe_callB call_len (by rfl) T.b_len PySem.boot_len (pa_cons (pv 0) pa_nil)) pe_int (nomark _)) (pw_or1 (pt_cmpR op_gt (pe_callB call_len (by rfl) T.b_len PySem.boot_len (pa_cons (pv 0) pa_nil)) (pe_gi rfl T.i_MOST_rulereader) (nomark _)))))
        (pss_one ps_never)
        pss_nil)
      (pss_one (ps_ret (pe_callTy call_list_of (by rfl) T.b_list (by decide +kernel) (pa_cons (pv 0) pa_nil))))), ?_⟩
    refine ⟨_, rfl, _, _, rfl, .inl ⟨_, hS, rfl⟩, _, _, rfl, rfl, _, rfl, ?_⟩
    rw [decide_eq_false (by omega)]
    refine iteF ⟨_, rfl, _, _, rfl, .inl ⟨_, hS, rfl⟩, _, _, rfl, rfl, _, rfl, ?_⟩
    rw [decide_eq_false (by omega)]
    exact iteF ⟨_, rfl, a, _, rfl, .inl hS, q⟩
abbrev sV (ns : List Int) : List V := ns.map fun n => V.str (nS n)
def sp_numbers_of (K : PySem.W.Frag) : Sp := fun vs H Q _ => ∃ (a : Addr) (ns : List Int) (r : V), vs = [.ref a, r] ∧ SqL K H a (sV ns) ∧ (∀ n ∈ ns, n.natAbs < 10 ^ 40) ∧ ns.length ≤ 1000 ∧ ∀ p H', Same H H' → H p = none → H' p = some (.lst (ns.map V.int)) → Q (.ref p) H'
theorem ok_numbers_of (T : Top K mg base) : DOk P w K mg base "numbers_of" 2 ["words", "row"] (sp_numbers_of K) := by
  have G_is_number := ok_is_number (P := P) (w := w) T
  obtain ⟨fd, F⟩ := T.D_numbers_of
  refine ⟨fd, F.ok sc_numbers_of (fun vs H Q E h => ?_) (fun cdv A outer s H vs Q E hr h => ?_), F.bindsN fun _ _ _ _ _ _ us hl => match us, hl with | [_, _], _ => rfl, F.kp, T.g_numbers_of⟩
  · obtain ⟨a, ns, r, rfl, _⟩ := h
    rfl
  · obtain ⟨a, ns, r, rfl, hS, hb, hl, q⟩ := h
    have ll : (sV ns).length = ns.length := List.length_map ..
-- slots: 0 words 1 row 2 found 3 word
-- needs: is_number
    refine ⟨_, PSs.nox (pss_cons (ps_set (i := 2) sc_numbers_of.nd rfl (by first | exact Or.inl rfl | exact Or.inr rfl) (pe_lst pa_nil))
      (pss_cons (ps_for PassesOwn.never rfl (pi_list (pv 0)) (pg_name (i := 3) sc_numbers_of.nd rfl (by first | exact Or.inl rfl | exact Or.inr rfl))
        (pss_cons (ps_if (pt_not (pt_val (dcall G_is_number (hr.mono (by decide)) (by rfl) (pa_cons (pv 3) pa_nil))))
          (pss_one ps_never)
          pss_nil)
        (pss_one (ps_expr (pe_bm PySem.F.plainAttrs_list PySem.F.slot_list_append PySem.F.type_list_append mt_append (pv 2) (pa_cons (pe_callTy call_int_str (by rfl) T.b_int (by decide +kernel) (pa_cons (pv 3) pa_nil)) pa_nil))))))
      (pss_one (ps_ret (pv 2))))), ?_⟩
    refine ⟨Nat.zero_le _, fun p np => ?_⟩
    refine ⟨_, rfl, a, rfl, ⟨_, (Same.new np).seq hS⟩, for_list (K := K) (a := a) (xs := sV ns) (fun i σ H' => ∃ (x3 : Option V), σ = [some (.ref a), some r, some (.ref p), x3] ∧ Same H H' ∧ H' p = some (.lst ((ns.take i).map V.int)))
      ⟨_, rfl, Same.new np, upd_same⟩ (fun i σ H' _ ⟨_, _, s, _⟩ => s.seq hS) ?_ ?_⟩
    · rintro i v σ H' hv ⟨x3, rfl, SI, hp⟩
      obtain ⟨n, hn, rfl⟩ : ∃ n, ns[i]? = some n ∧ v = V.str (nS n) := by
        rw [List.getElem?_map] at hv
        cases e : ns[i]? with
        | none => rw [e] at hv; cases hv
        | some n => rw [e] at hv; exact ⟨n, rfl, (Option.some.inj hv).symm⟩
      have hb' := hb n (List.mem_of_getElem? hn)
      refine ⟨_, rfl, n, rfl, hb', true, rfl, iteF ?_⟩
      refine ⟨_, rfl, .inl ⟨rfl, _, sql hp⟩, _, rfl, nS n, n, rfl, nS_read hb', by have := nS_len2 hb'; omega, p, _, _, rfl, rfl, hp, ?_, _, rfl, SI.mut np, ?_⟩
      · rw [List.length_map, List.length_take]
        exact szl (by omega)
      · rw [upd_same, take_more hn, List.map_append]
        rfl
    · rintro σ H' ⟨x3, rfl, SI, hp⟩
      rw [ll, List.take_length] at hp
      exact ⟨_, rfl, q p H' SI np hp⟩
/-! ### Rule.__init__, called by the rules' own -/
def sp_Rule_init (K : PySem.W.Frag) : Sp := fun vs H Q _ => ∃ (r C dx : Addr) (t : Str), vs = [.ref r, .str t] ∧ H r = some (.ins C dx []) ∧ Cls K C ∧ NoAttr K C "told" ∧ Q .non (upd H r (.ins C dx (putF "told" (.str t) [])))
/-- the class Rule's own __init__ -/
def RIOk (P : Program) (w : World) (K : PySem.W.Frag) (mg : Str → Option Value) (base : Heap) (k : Nat) : Prop :=
  ∃ (f : Addr) (fd : FuncData), PySem.W.readsIn K (He.ga K "Rule") (.type "type") = true ∧ PySem.W.specialIn K (.ref (He.ga K "Rule")) "__getattribute__" = some (some (.builtin "type.__getattribute__")) ∧
    PySem.W.findCls K (.ref (He.ga K "Rule")) (.type "type") "__init__" = some (.val (.ref f)) ∧ PySem.W.keepIn K (.ref f) = true ∧ FnOk P w K mg base CX0 k f fd ["self", "told"] (sp_Rule_init K) ∧ Binds K fd ["self", "told"] [] ∧ mg "Rule" = some (.ref (He.ga K "Rule"))
theorem ok_Rule_init (T : Top K mg base) : RIOk P w K mg base 1 := by
  obtain ⟨fd, F⟩ := T.D_Rule_init
  have e := T.ex
  unfold exB at e
  obtain ⟨e1, e⟩ := He.ba e
  obtain ⟨e2, e⟩ := He.ba e
  obtain ⟨e3, e4⟩ := He.ba e
  have e5 : PySem.W.findCls K (.ref (He.ga K "Rule")) (.type "type") "__init__" = some (.val (.ref (He.ma K (He.ga K "Rule") "__init__"))) := by
    split at e3
    · rename_i f q
      rw [q, of_decide_eq_true e3]
    · cases e3
  refine ⟨_, fd, e1, He.eqO_ok e2, e5, F.kp, F.ok sc_Rule_init (fun vs H Q E h => ?_) (fun cdv A outer s H vs Q E hr h => ?_), F.bindsN fun _ _ _ _ _ _ us hl => match us, hl with | [_, _], _ => rfl, T.g_Rule⟩
  · obtain ⟨r, C, dx, t, rfl, _⟩ := h
    rfl
  · obtain ⟨r, C, dx, t, rfl, hr1, hC, hN, q⟩ := h
-- slots: 0 self 1 told
-- needs: 
    refine ⟨_, PSs.nox (pss_one (ps_fld (pv 0) (pv 1) rfl)), ?_⟩
    exact ⟨_, rfl, _, rfl, r, C, dx, _, rfl, hr1, hC, hN, by decide, q⟩
theorem rinit {X : Cx} {e : Expr} {es : List Expr} {t : TA} {k : Nat} {p pos apos : Pos} {pl : Sem Bool} (R : RIOk X.prog X.w X.K X.mg X.base k) (hr : Room k X.A) (hg : Gl X "Rule") (ha : PA X (e :: es) t)
    (hst : starEach (e :: es) X.env = (false, eval e X.env) :: starEach es X.env := by rfl) (hpl : (backTo pos (starEach es X.env)).any (·.1) = false := by rfl)
    (ht : eval (.Call (.Attribute (.Name "Rule" p) "__init__" apos) (e :: es) [] pos) X.env = (do
      let ov ← eval (.Name "Rule" p) X.env
      standAt apos.atName
      let (f, first) ← holding [ov] (getMethod ov "__init__" pl)
      callWith pos f first (backTo pos (starEach (e :: es) X.env)) (backToKw pos (keywordEach [] X.env))) := by rfl) :
    PE X (.Call (.Attribute (.Name "Rule" p) "__init__" apos) (e :: es) [] pos) (fun σ H Q => t σ H fun vs H2 => sp_Rule_init X.K vs H2 Q E0) := by
  obtain ⟨f, fd, e1, e2, e3, e4, F, b, g⟩ := R
  have h := pe_rinit (C := He.ga X.K "Rule") (sp := sp_Rule_init X.K) e1 e2 e3 e4 F b hr (pe_glob (v := .ref (He.ga X.K "Rule")) (pos := p) hg g rfl) ha hst hpl ht
  exact ⟨fun pins s σ H Q I q => h.run pins s σ H Q I ⟨rfl, q⟩⟩
/-- a rule's maker: its fields in order -/
def spInit (K : PySem.W.Frag) (c : Str) (names : List Str) : Sp := fun vs H Q _ => ∃ (r dx : Addr) (t : Str) (args : List V), vs = .ref r :: .str t :: args ∧ args.length = names.length ∧ H r = some (.ins (He.ga K c) dx []) ∧
  ∀ H', (∀ b, b ≠ r → H' b = H b) → H' r = some (.ins (He.ga K c) dx (mkF (("told", .str t) :: names.zip args))) → Q .non H'
theorem mk_Span (T : Top K mg base) : KOk P w K mg base "Span" 2 ["self", "told", "one", "other", "some"] (spInit K "Span" ["one", "other", "some"]) := by
  have R := ok_Rule_init (P := P) (w := w) T
  obtain ⟨fd, F⟩ := T.D_Span_init
  refine ⟨_, fd, F.ok sc_Span_init (fun vs H Q E h => ?_) (fun cdv A outer s H vs Q E hr h => ?_), F.bindsN fun _ _ _ _ _ _ us hl => match us, hl with | [_, _, _, _, _], _ => rfl, T.k_Span, T.g_Span⟩
  · obtain ⟨r, dx, t, args, rfl, hl, _⟩ := h
    rw [List.length_cons, List.length_cons, hl]
    rfl
  · obtain ⟨r, dx, t, args, rfl, hl, hr0, q⟩ := h
    obtain ⟨a0, a1, a2, rfl⟩ : ∃ a0 a1 a2, args = [a0, a1, a2] := match args, hl with
    | [a0, a1, a2], _ => ⟨a0, a1, a2, rfl⟩
-- slots: 0 self 1 told 2 one 3 other 4 some
-- needs: 
    refine ⟨_, PSs.nox (pss_cons (ps_expr (rinit R (hr.mono (by decide)) (by rfl) (pa_cons (pv 0) (pa_cons (pv 1) pa_nil))))
      (pss_cons (ps_fld (pv 0) (pv 2) rfl)
      (pss_cons (ps_fld (pv 0) (pv 3) rfl)
      (pss_one (ps_fld (pv 0) (pv 4) rfl))))), ?_⟩
    refine ⟨_, rfl, _, rfl, r, _, dx, t, rfl, hr0, T.c_Span, T.n_Span_told, ?_⟩
    refine ⟨_, rfl, _, rfl, r, _, dx, _, rfl, upd_same, T.c_Span, T.n_Span_one, Nat.lt_of_le_of_lt (flen (Nat.le_refl 0)) (by decide), ?_⟩
    refine ⟨_, rfl, _, rfl, r, _, dx, _, rfl, upd_same, T.c_Span, T.n_Span_other, Nat.lt_of_le_of_lt (flen (flen (Nat.le_refl 0))) (by decide), ?_⟩
    refine ⟨_, rfl, _, rfl, r, _, dx, _, rfl, upd_same, T.c_Span, T.n_Span_some, Nat.lt_of_le_of_lt (flen (flen (flen (Nat.le_refl 0)))) (by decide), ?_⟩
    exact q _ (fun b hb => by rw [upd_ne hb, upd_ne hb, upd_ne hb, upd_ne hb]) upd_same
theorem mk_Clock (T : Top K mg base) : KOk P w K mg base "Clock" 2 ["self", "told", "one", "other", "beat", "some"] (spInit K "Clock" ["one", "other", "beat", "some"]) := by
  have R := ok_Rule_init (P := P) (w := w) T
  obtain ⟨fd, F⟩ := T.D_Clock_init
  refine ⟨_, fd, F.ok sc_Clock_init (fun vs H Q E h => ?_) (fun cdv A outer s H vs Q E hr h => ?_), F.bindsN fun _ _ _ _ _ _ us hl => match us, hl with | [_, _, _, _, _, _], _ => rfl, T.k_Clock, T.g_Clock⟩
  · obtain ⟨r, dx, t, args, rfl, hl, _⟩ := h
    rw [List.length_cons, List.length_cons, hl]
    rfl
  · obtain ⟨r, dx, t, args, rfl, hl, hr0, q⟩ := h
    obtain ⟨a0, a1, a2, a3, rfl⟩ : ∃ a0 a1 a2 a3, args = [a0, a1, a2, a3] := match args, hl with
    | [a0, a1, a2, a3], _ => ⟨a0, a1, a2, a3, rfl⟩
-- slots: 0 self 1 told 2 one 3 other 4 beat 5 some
-- needs: 
    refine ⟨_, PSs.nox (pss_cons (ps_expr (rinit R (hr.mono (by decide)) (by rfl) (pa_cons (pv 0) (pa_cons (pv 1) pa_nil))))
      (pss_cons (ps_fld (pv 0) (pv 2) rfl)
      (pss_cons (ps_fld (pv 0) (pv 3) rfl)
      (pss_cons (ps_fld (pv 0) (pv 4) rfl)
      (pss_one (ps_fld (pv 0) (pv 5) rfl)))))), ?_⟩
    refine ⟨_, rfl, _, rfl, r, _, dx, t, rfl, hr0, T.c_Clock, T.n_Clock_told, ?_⟩
    refine ⟨_, rfl, _, rfl, r, _, dx, _, rfl, upd_same, T.c_Clock, T.n_Clock_one, Nat.lt_of_le_of_lt (flen (Nat.le_refl 0)) (by decide), ?_⟩
    refine ⟨_, rfl, _, rfl, r, _, dx, _, rfl, upd_same, T.c_Clock, T.n_Clock_other, Nat.lt_of_le_of_lt (flen (flen (Nat.le_refl 0))) (by decide), ?_⟩
    refine ⟨_, rfl, _, rfl, r, _, dx, _, rfl, upd_same, T.c_Clock, T.n_Clock_beat, Nat.lt_of_le_of_lt (flen (flen (flen (Nat.le_refl 0)))) (by decide), ?_⟩
    refine ⟨_, rfl, _, rfl, r, _, dx, _, rfl, upd_same, T.c_Clock, T.n_Clock_some, Nat.lt_of_le_of_lt (flen (flen (flen (flen (Nat.le_refl 0))))) (by decide), ?_⟩
    exact q _ (fun b hb => by rw [upd_ne hb, upd_ne hb, upd_ne hb, upd_ne hb, upd_ne hb]) upd_same
theorem mk_Begin (T : Top K mg base) : KOk P w K mg base "Begin" 2 ["self", "told", "voice", "some"] (spInit K "Begin" ["voice", "some"]) := by
  have R := ok_Rule_init (P := P) (w := w) T
  obtain ⟨fd, F⟩ := T.D_Begin_init
  refine ⟨_, fd, F.ok sc_Begin_init (fun vs H Q E h => ?_) (fun cdv A outer s H vs Q E hr h => ?_), F.bindsN fun _ _ _ _ _ _ us hl => match us, hl with | [_, _, _, _], _ => rfl, T.k_Begin, T.g_Begin⟩
  · obtain ⟨r, dx, t, args, rfl, hl, _⟩ := h
    rw [List.length_cons, List.length_cons, hl]
    rfl
  · obtain ⟨r, dx, t, args, rfl, hl, hr0, q⟩ := h
    obtain ⟨a0, a1, rfl⟩ : ∃ a0 a1, args = [a0, a1] := match args, hl with
    | [a0, a1], _ => ⟨a0, a1, rfl⟩
-- slots: 0 self 1 told 2 voice 3 some
-- needs: 
    refine ⟨_, PSs.nox (pss_cons (ps_expr (rinit R (hr.mono (by decide)) (by rfl) (pa_cons (pv 0) (pa_cons (pv 1) pa_nil))))
      (pss_cons (ps_fld (pv 0) (pv 2) rfl)
      (pss_one (ps_fld (pv 0) (pv 3) rfl)))), ?_⟩
    refine ⟨_, rfl, _, rfl, r, _, dx, t, rfl, hr0, T.c_Begin, T.n_Begin_told, ?_⟩
    refine ⟨_, rfl, _, rfl, r, _, dx, _, rfl, upd_same, T.c_Begin, T.n_Begin_voice, Nat.lt_of_le_of_lt (flen (Nat.le_refl 0)) (by decide), ?_⟩
    refine ⟨_, rfl, _, rfl, r, _, dx, _, rfl, upd_same, T.c_Begin, T.n_Begin_some, Nat.lt_of_le_of_lt (flen (flen (Nat.le_refl 0))) (by decide), ?_⟩
    exact q _ (fun b hb => by rw [upd_ne hb, upd_ne hb, upd_ne hb]) upd_same
theorem mk_Close (T : Top K mg base) : KOk P w K mg base "Close" 2 ["self", "told", "voice", "some"] (spInit K "Close" ["voice", "some"]) := by
  have R := ok_Rule_init (P := P) (w := w) T
  obtain ⟨fd, F⟩ := T.D_Close_init
  refine ⟨_, fd, F.ok sc_Close_init (fun vs H Q E h => ?_) (fun cdv A outer s H vs Q E hr h => ?_), F.bindsN fun _ _ _ _ _ _ us hl => match us, hl with | [_, _, _, _], _ => rfl, T.k_Close, T.g_Close⟩
  · obtain ⟨r, dx, t, args, rfl, hl, _⟩ := h
    rw [List.length_cons, List.length_cons, hl]
    rfl
  · obtain ⟨r, dx, t, args, rfl, hl, hr0, q⟩ := h
    obtain ⟨a0, a1, rfl⟩ : ∃ a0 a1, args = [a0, a1] := match args, hl with
    | [a0, a1], _ => ⟨a0, a1, rfl⟩
-- slots: 0 self 1 told 2 voice 3 some
-- needs: 
    refine ⟨_, PSs.nox (pss_cons (ps_expr (rinit R (hr.mono (by decide)) (by rfl) (pa_cons (pv 0) (pa_cons (pv 1) pa_nil))))
      (pss_cons (ps_fld (pv 0) (pv 2) rfl)
      (pss_one (ps_fld (pv 0) (pv 3) rfl)))), ?_⟩
    refine ⟨_, rfl, _, rfl, r, _, dx, t, rfl, hr0, T.c_Close, T.n_Close_told, ?_⟩
    refine ⟨_, rfl, _, rfl, r, _, dx, _, rfl, upd_same, T.c_Close, T.n_Close_voice, Nat.lt_of_le_of_lt (flen (Nat.le_refl 0)) (by decide), ?_⟩
    refine ⟨_, rfl, _, rfl, r, _, dx, _, rfl, upd_same, T.c_Close, T.n_Close_some, Nat.lt_of_le_of_lt (flen (flen (Nat.le_refl 0))) (by decide), ?_⟩
    exact q _ (fun b hb => by rw [upd_ne hb, upd_ne hb, upd_ne hb]) upd_same
theorem mk_Back (T : Top K mg base) : KOk P w K mg base "Back" 2 ["self", "told", "voice", "far"] (spInit K "Back" ["voice", "far"]) := by
  have R := ok_Rule_init (P := P) (w := w) T
  obtain ⟨fd, F⟩ := T.D_Back_init
  refine ⟨_, fd, F.ok sc_Back_init (fun vs H Q E h => ?_) (fun cdv A outer s H vs Q E hr h => ?_), F.bindsN fun _ _ _ _ _ _ us hl => match us, hl with | [_, _, _, _], _ => rfl, T.k_Back, T.g_Back⟩
  · obtain ⟨r, dx, t, args, rfl, hl, _⟩ := h
    rw [List.length_cons, List.length_cons, hl]
    rfl
  · obtain ⟨r, dx, t, args, rfl, hl, hr0, q⟩ := h
    obtain ⟨a0, a1, rfl⟩ : ∃ a0 a1, args = [a0, a1] := match args, hl with
    | [a0, a1], _ => ⟨a0, a1, rfl⟩
-- slots: 0 self 1 told 2 voice 3 far
-- needs: 
    refine ⟨_, PSs.nox (pss_cons (ps_expr (rinit R (hr.mono (by decide)) (by rfl) (pa_cons (pv 0) (pa_cons (pv 1) pa_nil))))
      (pss_cons (ps_fld (pv 0) (pv 2) rfl)
      (pss_one (ps_fld (pv 0) (pv 3) rfl)))), ?_⟩
    refine ⟨_, rfl, _, rfl, r, _, dx, t, rfl, hr0, T.c_Back, T.n_Back_told, ?_⟩
    refine ⟨_, rfl, _, rfl, r, _, dx, _, rfl, upd_same, T.c_Back, T.n_Back_voice, Nat.lt_of_le_of_lt (flen (Nat.le_refl 0)) (by decide), ?_⟩
    refine ⟨_, rfl, _, rfl, r, _, dx, _, rfl, upd_same, T.c_Back, T.n_Back_far, Nat.lt_of_le_of_lt (flen (flen (Nat.le_refl 0))) (by decide), ?_⟩
    exact q _ (fun b hb => by rw [upd_ne hb, upd_ne hb, upd_ne hb]) upd_same
theorem mk_Held (T : Top K mg base) : KOk P w K mg base "Held" 2 ["self", "told", "voice", "most"] (spInit K "Held" ["voice", "most"]) := by
  have R := ok_Rule_init (P := P) (w := w) T
  obtain ⟨fd, F⟩ := T.D_Held_init
  refine ⟨_, fd, F.ok sc_Held_init (fun vs H Q E h => ?_) (fun cdv A outer s H vs Q E hr h => ?_), F.bindsN fun _ _ _ _ _ _ us hl => match us, hl with | [_, _, _, _], _ => rfl, T.k_Held, T.g_Held⟩
  · obtain ⟨r, dx, t, args, rfl, hl, _⟩ := h
    rw [List.length_cons, List.length_cons, hl]
    rfl
  · obtain ⟨r, dx, t, args, rfl, hl, hr0, q⟩ := h
    obtain ⟨a0, a1, rfl⟩ : ∃ a0 a1, args = [a0, a1] := match args, hl with
    | [a0, a1], _ => ⟨a0, a1, rfl⟩
-- slots: 0 self 1 told 2 voice 3 most
-- needs: 
    refine ⟨_, PSs.nox (pss_cons (ps_expr (rinit R (hr.mono (by decide)) (by rfl) (pa_cons (pv 0) (pa_cons (pv 1) pa_nil))))
      (pss_cons (ps_fld (pv 0) (pv 2) rfl)
      (pss_one (ps_fld (pv 0) (pv 3) rfl)))), ?_⟩
    refine ⟨_, rfl, _, rfl, r, _, dx, t, rfl, hr0, T.c_Held, T.n_Held_told, ?_⟩
    refine ⟨_, rfl, _, rfl, r, _, dx, _, rfl, upd_same, T.c_Held, T.n_Held_voice, Nat.lt_of_le_of_lt (flen (Nat.le_refl 0)) (by decide), ?_⟩
    refine ⟨_, rfl, _, rfl, r, _, dx, _, rfl, upd_same, T.c_Held, T.n_Held_most, Nat.lt_of_le_of_lt (flen (flen (Nat.le_refl 0))) (by decide), ?_⟩
    exact q _ (fun b hb => by rw [upd_ne hb, upd_ne hb, upd_ne hb]) upd_same
theorem mk_Times (T : Top K mg base) : KOk P w K mg base "Times" 2 ["self", "told", "voice", "note", "low", "high"] (spInit K "Times" ["voice", "note", "low", "high"]) := by
  have R := ok_Rule_init (P := P) (w := w) T
  obtain ⟨fd, F⟩ := T.D_Times_init
  refine ⟨_, fd, F.ok sc_Times_init (fun vs H Q E h => ?_) (fun cdv A outer s H vs Q E hr h => ?_), F.bindsN fun _ _ _ _ _ _ us hl => match us, hl with | [_, _, _, _, _, _], _ => rfl, T.k_Times, T.g_Times⟩
  · obtain ⟨r, dx, t, args, rfl, hl, _⟩ := h
    rw [List.length_cons, List.length_cons, hl]
    rfl
  · obtain ⟨r, dx, t, args, rfl, hl, hr0, q⟩ := h
    obtain ⟨a0, a1, a2, a3, rfl⟩ : ∃ a0 a1 a2 a3, args = [a0, a1, a2, a3] := match args, hl with
    | [a0, a1, a2, a3], _ => ⟨a0, a1, a2, a3, rfl⟩
-- slots: 0 self 1 told 2 voice 3 note 4 low 5 high
-- needs: 
    refine ⟨_, PSs.nox (pss_cons (ps_expr (rinit R (hr.mono (by decide)) (by rfl) (pa_cons (pv 0) (pa_cons (pv 1) pa_nil))))
      (pss_cons (ps_fld (pv 0) (pv 2) rfl)
      (pss_cons (ps_fld (pv 0) (pv 3) rfl)
      (pss_cons (ps_fld (pv 0) (pv 4) rfl)
      (pss_one (ps_fld (pv 0) (pv 5) rfl)))))), ?_⟩
    refine ⟨_, rfl, _, rfl, r, _, dx, t, rfl, hr0, T.c_Times, T.n_Times_told, ?_⟩
    refine ⟨_, rfl, _, rfl, r, _, dx, _, rfl, upd_same, T.c_Times, T.n_Times_voice, Nat.lt_of_le_of_lt (flen (Nat.le_refl 0)) (by decide), ?_⟩
    refine ⟨_, rfl, _, rfl, r, _, dx, _, rfl, upd_same, T.c_Times, T.n_Times_note, Nat.lt_of_le_of_lt (flen (flen (Nat.le_refl 0))) (by decide), ?_⟩
    refine ⟨_, rfl, _, rfl, r, _, dx, _, rfl, upd_same, T.c_Times, T.n_Times_low, Nat.lt_of_le_of_lt (flen (flen (flen (Nat.le_refl 0)))) (by decide), ?_⟩
    refine ⟨_, rfl, _, rfl, r, _, dx, _, rfl, upd_same, T.c_Times, T.n_Times_high, Nat.lt_of_le_of_lt (flen (flen (flen (flen (Nat.le_refl 0))))) (by decide), ?_⟩
    exact q _ (fun b hb => by rw [upd_ne hb, upd_ne hb, upd_ne hb, upd_ne hb, upd_ne hb]) upd_same
theorem mk_Every (T : Top K mg base) : KOk P w K mg base "Every" 2 ["self", "told", "beat", "at", "rule"] (spInit K "Every" ["beat", "at", "rule"]) := by
  have R := ok_Rule_init (P := P) (w := w) T
  obtain ⟨fd, F⟩ := T.D_Every_init
  refine ⟨_, fd, F.ok sc_Every_init (fun vs H Q E h => ?_) (fun cdv A outer s H vs Q E hr h => ?_), F.bindsN fun _ _ _ _ _ _ us hl => match us, hl with | [_, _, _, _, _], _ => rfl, T.k_Every, T.g_Every⟩
  · obtain ⟨r, dx, t, args, rfl, hl, _⟩ := h
    rw [List.length_cons, List.length_cons, hl]
    rfl
  · obtain ⟨r, dx, t, args, rfl, hl, hr0, q⟩ := h
    obtain ⟨a0, a1, a2, rfl⟩ : ∃ a0 a1 a2, args = [a0, a1, a2] := match args, hl with
    | [a0, a1, a2], _ => ⟨a0, a1, a2, rfl⟩
-- slots: 0 self 1 told 2 beat 3 at 4 rule
-- needs: 
    refine ⟨_, PSs.nox (pss_cons (ps_expr (rinit R (hr.mono (by decide)) (by rfl) (pa_cons (pv 0) (pa_cons (pv 1) pa_nil))))
      (pss_cons (ps_fld (pv 0) (pv 2) rfl)
      (pss_cons (ps_fld (pv 0) (pv 3) rfl)
      (pss_one (ps_fld (pv 0) (pv 4) rfl))))), ?_⟩
    refine ⟨_, rfl, _, rfl, r, _, dx, t, rfl, hr0, T.c_Every, T.n_Every_told, ?_⟩
    refine ⟨_, rfl, _, rfl, r, _, dx, _, rfl, upd_same, T.c_Every, T.n_Every_beat, Nat.lt_of_le_of_lt (flen (Nat.le_refl 0)) (by decide), ?_⟩
    refine ⟨_, rfl, _, rfl, r, _, dx, _, rfl, upd_same, T.c_Every, T.n_Every_at, Nat.lt_of_le_of_lt (flen (flen (Nat.le_refl 0))) (by decide), ?_⟩
    refine ⟨_, rfl, _, rfl, r, _, dx, _, rfl, upd_same, T.c_Every, T.n_Every_rule, Nat.lt_of_le_of_lt (flen (flen (flen (Nat.le_refl 0)))) (by decide), ?_⟩
    exact q _ (fun b hb => by rw [upd_ne hb, upd_ne hb, upd_ne hb, upd_ne hb]) upd_same
theorem mk_Move (T : Top K mg base) : KOk P w K mg base "Move" 2 ["self", "told", "voice", "some"] (spInit K "Move" ["voice", "some"]) := by
  have R := ok_Rule_init (P := P) (w := w) T
  obtain ⟨fd, F⟩ := T.D_Move_init
  refine ⟨_, fd, F.ok sc_Move_init (fun vs H Q E h => ?_) (fun cdv A outer s H vs Q E hr h => ?_), F.bindsN fun _ _ _ _ _ _ us hl => match us, hl with | [_, _, _, _], _ => rfl, T.k_Move, T.g_Move⟩
  · obtain ⟨r, dx, t, args, rfl, hl, _⟩ := h
    rw [List.length_cons, List.length_cons, hl]
    rfl
  · obtain ⟨r, dx, t, args, rfl, hl, hr0, q⟩ := h
    obtain ⟨a0, a1, rfl⟩ : ∃ a0 a1, args = [a0, a1] := match args, hl with
    | [a0, a1], _ => ⟨a0, a1, rfl⟩
-- slots: 0 self 1 told 2 voice 3 some
-- needs: 
    refine ⟨_, PSs.nox (pss_cons (ps_expr (rinit R (hr.mono (by decide)) (by rfl) (pa_cons (pv 0) (pa_cons (pv 1) pa_nil))))
      (pss_cons (ps_fld (pv 0) (pv 2) rfl)
      (pss_one (ps_fld (pv 0) (pv 3) rfl)))), ?_⟩
    refine ⟨_, rfl, _, rfl, r, _, dx, t, rfl, hr0, T.c_Move, T.n_Move_told, ?_⟩
    refine ⟨_, rfl, _, rfl, r, _, dx, _, rfl, upd_same, T.c_Move, T.n_Move_voice, Nat.lt_of_le_of_lt (flen (Nat.le_refl 0)) (by decide), ?_⟩
    refine ⟨_, rfl, _, rfl, r, _, dx, _, rfl, upd_same, T.c_Move, T.n_Move_some, Nat.lt_of_le_of_lt (flen (flen (Nat.le_refl 0))) (by decide), ?_⟩
    exact q _ (fun b hb => by rw [upd_ne hb, upd_ne hb, upd_ne hb]) upd_same
theorem mk_Alike (T : Top K mg base) : KOk P w K mg base "Alike" 2 ["self", "told", "one", "other", "some"] (spInit K "Alike" ["one", "other", "some"]) := by
  have R := ok_Rule_init (P := P) (w := w) T
  obtain ⟨fd, F⟩ := T.D_Alike_init
  refine ⟨_, fd, F.ok sc_Alike_init (fun vs H Q E h => ?_) (fun cdv A outer s H vs Q E hr h => ?_), F.bindsN fun _ _ _ _ _ _ us hl => match us, hl with | [_, _, _, _, _], _ => rfl, T.k_Alike, T.g_Alike⟩
  · obtain ⟨r, dx, t, args, rfl, hl, _⟩ := h
    rw [List.length_cons, List.length_cons, hl]
    rfl
  · obtain ⟨r, dx, t, args, rfl, hl, hr0, q⟩ := h
    obtain ⟨a0, a1, a2, rfl⟩ : ∃ a0 a1 a2, args = [a0, a1, a2] := match args, hl with
    | [a0, a1, a2], _ => ⟨a0, a1, a2, rfl⟩
-- slots: 0 self 1 told 2 one 3 other 4 some
-- needs: 
    refine ⟨_, PSs.nox (pss_cons (ps_expr (rinit R (hr.mono (by decide)) (by rfl) (pa_cons (pv 0) (pa_cons (pv 1) pa_nil))))
      (pss_cons (ps_fld (pv 0) (pv 2) rfl)
      (pss_cons (ps_fld (pv 0) (pv 3) rfl)
      (pss_one (ps_fld (pv 0) (pv 4) rfl))))), ?_⟩
    refine ⟨_, rfl, _, rfl, r, _, dx, t, rfl, hr0, T.c_Alike, T.n_Alike_told, ?_⟩
    refine ⟨_, rfl, _, rfl, r, _, dx, _, rfl, upd_same, T.c_Alike, T.n_Alike_one, Nat.lt_of_le_of_lt (flen (Nat.le_refl 0)) (by decide), ?_⟩
    refine ⟨_, rfl, _, rfl, r, _, dx, _, rfl, upd_same, T.c_Alike, T.n_Alike_other, Nat.lt_of_le_of_lt (flen (flen (Nat.le_refl 0))) (by decide), ?_⟩
    refine ⟨_, rfl, _, rfl, r, _, dx, _, rfl, upd_same, T.c_Alike, T.n_Alike_some, Nat.lt_of_le_of_lt (flen (flen (flen (Nat.le_refl 0)))) (by decide), ?_⟩
    exact q _ (fun b hb => by rw [upd_ne hb, upd_ne hb, upd_ne hb, upd_ne hb]) upd_same
end
end Fv
set_option Elab.async false
set_option linter.all false
set_option maxRecDepth 100000
set_option maxHeartbeats 4000000
/-! Rules: what they are, their methods. -/
namespace Fv
open PySem PySem.Spec PyProof.Rows L2
inductive RK where
  | span (a b : Nat) (d : List Int)
  | clock (a b : Nat) (m : Int) (d : List Int)
  | alike (a b : Nat) (d : List Int)
  | move (v : Nat) (d : List Int)
  | back (v : Nat) (d : Int)
  | held (v : Nat) (k : Int)
  | times (v : Nat) (x lo hi : Int)
  | beg (v : Nat) (d : List Int)
  | clo (v : Nat) (d : List Int)
  | ev (m r : Int) (inner : RK)
def RK.cls : RK → Str
  | .span _ _ _ => "Span"
  | .clock _ _ _ _ => "Clock"
  | .beg _ _ => "Begin"
  | .clo _ _ => "Close"
  | .back _ _ => "Back"
  | .held _ _ => "Held"
  | .times _ _ _ _ => "Times"
  | .ev _ _ _ => "Every"
  | .move _ _ => "Move"
  | .alike _ _ _ => "Alike"
def RK.size : RK → Int
  | .back _ _ => 3
  | .held _ k => k
  | .times _ _ _ hi => hi + 1
  | .ev m _ _ => m
  | _ => 1
def RK.kind : RK → Str
  | .span _ _ _ => "span"
  | .clock _ _ _ _ => "clock"
  | .beg _ _ => "begin"
  | .clo _ _ => "close"
  | .back _ _ => "back"
  | .held _ _ => "held"
  | .times _ _ _ _ => "times"
  | .ev _ _ _ => "every"
  | .move _ _ => "move"
  | .alike _ _ _ => "alike"
abbrev Fig (n : Int) : Prop := n.natAbs < 10 ^ 40
def Some12 (d : List Int) : Prop := 1 ≤ d.length ∧ d.length ≤ 12 ∧ ∀ x ∈ d, Fig x
/-- it is a rule for n voices -/
def RK.ok (n : Nat) : RK → Prop
  | .span a b d => a < n ∧ b < n ∧ Some12 d
  | .clock a b m d => a < n ∧ b < n ∧ 1 ≤ m ∧ Fig m ∧ Some12 d
  | .alike a b d => a < n ∧ b < n ∧ Some12 d
  | .move v d => v < n ∧ Some12 d
  | .back v d => v < n ∧ 0 ≤ d ∧ Fig d
  | .held v k => v < n ∧ 1 ≤ k ∧ Fig k
  | .times v x lo hi => v < n ∧ Fig x ∧ 0 ≤ lo ∧ Fig lo ∧ 0 ≤ hi ∧ Fig hi
  | .beg v d => v < n ∧ Some12 d
  | .clo v d => v < n ∧ Some12 d
  | .ev m r inner => 1 ≤ m ∧ Fig m ∧ 0 ≤ r ∧ r < m ∧ ((∃ a b d, inner = .span a b d) ∨ ∃ a b k d, inner = .clock a b k d) ∧ inner.ok n
theorem RK.size_pos {n : Nat} : ∀ {R : RK}, R.ok n → 1 ≤ R.size
  | .span .., _ => (by decide : (1 : Int) ≤ 1)
  | .clock .., _ => (by decide : (1 : Int) ≤ 1)
  | .alike .., _ => (by decide : (1 : Int) ≤ 1)
  | .move .., _ => (by decide : (1 : Int) ≤ 1)
  | .back .., _ => (by decide : (1 : Int) ≤ 3)
  | .held _ _, h => h.2.1
  | .times _ _ _ _, h => by
    have := h.2.2.2.2.1
    dsimp only [RK.size]
    omega
  | .beg .., _ => (by decide : (1 : Int) ≤ 1)
  | .clo .., _ => (by decide : (1 : Int) ≤ 1)
  | .ev _ _ _, h => h.1
/-- an instance of the class c with these fields, and no attribute by a method's name -/
def ROf (K : PySem.W.Frag) (H : Hp) (r : Addr) (c : Str) (names : List Str) (args : List V) : Prop := ∃ dx fs, H r = some (.ins (He.ga K c) dx fs) ∧ (∀ (i : Nat) f v, names[i]? = some f → args[i]? = some v → fs.lookup f = some v) ∧
  ∀ m ∈ (["size", "start", "after", "closes"] : List Str), fs.lookup m = none
theorem ROf.mono {K : PySem.W.Frag} {H H' : Hp} {r : Addr} {c : Str} {names : List Str} {args : List V} (h : ROf K H r c names args) (s : ∀ a C dx fs, H a = some (.ins C dx fs) → H' a = some (.ins C dx fs)) : ROf K H' r c names args := by
  obtain ⟨dx, fs, e1, e2, e3⟩ := h
  exact ⟨dx, fs, s _ _ _ _ e1, e2, e3⟩
theorem zip_lookup : ∀ {names : List Str} {args : List V} {i : Nat} {f : Str} {v : V}, names.Nodup → names[i]? = some f → args[i]? = some v → (names.zip args).lookup f = some v
  | [], _, _, _, _, _, e, _ => by simp at e
  | _ :: _, [], _, _, _, _, _, e => by simp at e
  | n :: ns, a :: as, 0, f, v, _, e1, e2 => by
    have h1 : n = f := Option.some.inj e1
    have h2 : a = v := Option.some.inj e2
    subst h1 h2
    exact lk_eq
  | n :: ns, a :: as, i + 1, f, v, hn, e1, e2 => by
    obtain ⟨h1, h2⟩ := List.nodup_cons.mp hn
    have e3 : ns[i]? = some f := by simpa using e1
    have h3 : f ≠ n := fun e => h1 (e ▸ List.mem_of_getElem? e3)
    exact lk_ne (beq_eq_false_iff_ne.mpr h3) (zip_lookup h2 e3 (by simpa using e2))
theorem lookup_notin {n : Str} : ∀ {l : List (Str × V)}, n ∉ l.map (·.1) → l.lookup n = none
  | [], _ => rfl
  | (m, v) :: r, h => by
    have h1 : n ≠ m := fun e => h (by rw [e]; exact List.mem_cons_self ..)
    exact lk_ne (beq_eq_false_iff_ne.mpr h1) (lookup_notin fun z => h (List.mem_cons_of_mem _ z))
theorem zip_keys : ∀ {names : List Str} {args : List V}, args.length = names.length → (names.zip args).map (·.1) = names
  | [], [], _ => rfl
  | n :: ns, a :: as, h => by
    show n :: (ns.zip as).map (·.1) = n :: ns
    rw [zip_keys (by simpa using h)]
theorem ROf.made {K : PySem.W.Frag} {H : Hp} {r dx : Addr} {c : Str} {t : V} {names : List Str} {args : List V} (h : H r = some (.ins (He.ga K c) dx (mkF (("told", t) :: names.zip args)))) (hl : args.length = names.length)
    (hn : (("told" : Str) :: names).Nodup) (hm : ∀ m ∈ (["size", "start", "after", "closes"] : List Str), m ∉ ("told" : Str) :: names) : ROf K H r c names args := by
  have hk : ((("told" : Str), t) :: names.zip args).map (·.1) = ("told" : Str) :: names := by
    show ("told" : Str) :: (names.zip args).map (·.1) = _
    rw [zip_keys hl]
  refine ⟨dx, _, h, fun i f v e1 e2 => ?_, fun m h2 => ?_⟩
  · rw [mkF_lookup f (by rw [hk]; exact hn)]
    obtain ⟨h1, h3⟩ := List.nodup_cons.mp hn
    have h4 : f ≠ "told" := fun e => h1 (e ▸ List.mem_of_getElem? e1)
    exact lk_ne (beq_eq_false_iff_ne.mpr h4) (zip_lookup h3 e1 e2)
  · rw [mkF_lookup m (by rw [hk]; exact hn)]
    refine lookup_notin ?_
    rw [hk]
    exact hm m h2
/-- the rule R stands at r -/
def RO (K : PySem.W.Frag) (H : Hp) : RK → Addr → Prop
  | .span a a2 d, r => ∃ q : Addr, ROf K H r "Span" ["one", "other", "some"] [.int (a : Nat), .int (a2 : Nat), .ref q] ∧ H q = some (.lst (d.map V.int))
  | .clock a a2 m d, r => ∃ q : Addr, ROf K H r "Clock" ["one", "other", "beat", "some"] [.int (a : Nat), .int (a2 : Nat), .int m, .ref q] ∧ H q = some (.lst (d.map V.int))
  | .beg v d, r => ∃ q : Addr, ROf K H r "Begin" ["voice", "some"] [.int (v : Nat), .ref q] ∧ H q = some (.lst (d.map V.int))
  | .clo v d, r => ∃ q : Addr, ROf K H r "Close" ["voice", "some"] [.int (v : Nat), .ref q] ∧ H q = some (.lst (d.map V.int))
  | .back v d, r => ROf K H r "Back" ["voice", "far"] [.int (v : Nat), .int d]
  | .held v k, r => ROf K H r "Held" ["voice", "most"] [.int (v : Nat), .int k]
  | .times v x lo hi, r => ROf K H r "Times" ["voice", "note", "low", "high"] [.int (v : Nat), .int x, .int lo, .int hi]
  | .ev m rr inner, r => ∃ q : Addr, ROf K H r "Every" ["beat", "at", "rule"] [.int m, .int rr, .ref q] ∧ RO K H inner q
  | .move v d, r => ∃ q : Addr, ROf K H r "Move" ["voice", "some"] [.int (v : Nat), .ref q] ∧ H q = some (.lst (d.map V.int))
  | .alike a a2 d, r => ∃ q : Addr, ROf K H r "Alike" ["one", "other", "some"] [.int (a : Nat), .int (a2 : Nat), .ref q] ∧ H q = some (.lst (d.map V.int))
theorem RO.mono {K : PySem.W.Frag} {H H' : Hp} (s : Same H H') : ∀ {R : RK} {r : Addr}, RO K H R r → RO K H' R r
  | .span .., r, ⟨q, h1, h2⟩ => ⟨q, h1.mono fun a C dx fs e => s _ _ e, s _ _ h2⟩
  | .clock .., r, ⟨q, h1, h2⟩ => ⟨q, h1.mono fun a C dx fs e => s _ _ e, s _ _ h2⟩
  | .beg .., r, ⟨q, h1, h2⟩ => ⟨q, h1.mono fun a C dx fs e => s _ _ e, s _ _ h2⟩
  | .clo .., r, ⟨q, h1, h2⟩ => ⟨q, h1.mono fun a C dx fs e => s _ _ e, s _ _ h2⟩
  | .back .., r, h => ROf.mono h fun a C dx fs e => s _ _ e
  | .held .., r, h => ROf.mono h fun a C dx fs e => s _ _ e
  | .times .., r, h => ROf.mono h fun a C dx fs e => s _ _ e
  | .ev _ _ inner, r, ⟨q, h1, h2⟩ => ⟨q, h1.mono fun a C dx fs e => s _ _ e, RO.mono s (R := inner) h2⟩
  | .move .., r, ⟨q, h1, h2⟩ => ⟨q, h1.mono fun a C dx fs e => s _ _ e, s _ _ h2⟩
  | .alike .., r, ⟨q, h1, h2⟩ => ⟨q, h1.mono fun a C dx fs e => s _ _ e, s _ _ h2⟩
theorem RO.ins {K : PySem.W.Frag} {H : Hp} : ∀ {R : RK} {r : Addr}, RO K H R r → ∃ dx fs, H r = some (.ins (He.ga K R.cls) dx fs) ∧ ∀ m ∈ (["size", "start", "after", "closes"] : List Str), fs.lookup m = none
  | .span .., r, ⟨q, ⟨dx, fs, h1, _, h3⟩, _⟩ => ⟨dx, fs, h1, h3⟩
  | .clock .., r, ⟨q, ⟨dx, fs, h1, _, h3⟩, _⟩ => ⟨dx, fs, h1, h3⟩
  | .beg .., r, ⟨q, ⟨dx, fs, h1, _, h3⟩, _⟩ => ⟨dx, fs, h1, h3⟩
  | .clo .., r, ⟨q, ⟨dx, fs, h1, _, h3⟩, _⟩ => ⟨dx, fs, h1, h3⟩
  | .back .., r, ⟨dx, fs, h1, _, h3⟩ => ⟨dx, fs, h1, h3⟩
  | .held .., r, ⟨dx, fs, h1, _, h3⟩ => ⟨dx, fs, h1, h3⟩
  | .times .., r, ⟨dx, fs, h1, _, h3⟩ => ⟨dx, fs, h1, h3⟩
  | .ev .., r, ⟨q, ⟨dx, fs, h1, _, h3⟩, _⟩ => ⟨dx, fs, h1, h3⟩
  | .move .., r, ⟨q, ⟨dx, fs, h1, _, h3⟩, _⟩ => ⟨dx, fs, h1, h3⟩
  | .alike .., r, ⟨q, ⟨dx, fs, h1, _, h3⟩, _⟩ => ⟨dx, fs, h1, h3⟩
theorem RK.cls_mem : ∀ R : RK, R.cls ∈ ruleNames
  | .span .. => by dsimp only [RK.cls]; decide +kernel
  | .clock .. => by dsimp only [RK.cls]; decide +kernel
  | .beg .. => by dsimp only [RK.cls]; decide +kernel
  | .clo .. => by dsimp only [RK.cls]; decide +kernel
  | .back .. => by dsimp only [RK.cls]; decide +kernel
  | .held .. => by dsimp only [RK.cls]; decide +kernel
  | .times .. => by dsimp only [RK.cls]; decide +kernel
  | .ev .. => by dsimp only [RK.cls]; decide +kernel
  | .move .. => by dsimp only [RK.cls]; decide +kernel
  | .alike .. => by dsimp only [RK.cls]; decide +kernel
theorem is_Span {R : RK} (h : R.cls = "Span") : ∃ a a2 d, R = .span a a2 d := by
  cases R <;> first | exact ⟨_, _, _, rfl⟩ | exact absurd h (by dsimp only [RK.cls]; decide +kernel)
theorem is_Clock {R : RK} (h : R.cls = "Clock") : ∃ a a2 m d, R = .clock a a2 m d := by
  cases R <;> first | exact ⟨_, _, _, _, rfl⟩ | exact absurd h (by dsimp only [RK.cls]; decide +kernel)
theorem is_Begin {R : RK} (h : R.cls = "Begin") : ∃ v d, R = .beg v d := by
  cases R <;> first | exact ⟨_, _, rfl⟩ | exact absurd h (by dsimp only [RK.cls]; decide +kernel)
theorem is_Close {R : RK} (h : R.cls = "Close") : ∃ v d, R = .clo v d := by
  cases R <;> first | exact ⟨_, _, rfl⟩ | exact absurd h (by dsimp only [RK.cls]; decide +kernel)
theorem is_Back {R : RK} (h : R.cls = "Back") : ∃ v d, R = .back v d := by
  cases R <;> first | exact ⟨_, _, rfl⟩ | exact absurd h (by dsimp only [RK.cls]; decide +kernel)
theorem is_Held {R : RK} (h : R.cls = "Held") : ∃ v k, R = .held v k := by
  cases R <;> first | exact ⟨_, _, rfl⟩ | exact absurd h (by dsimp only [RK.cls]; decide +kernel)
theorem is_Times {R : RK} (h : R.cls = "Times") : ∃ v x lo hi, R = .times v x lo hi := by
  cases R <;> first | exact ⟨_, _, _, _, rfl⟩ | exact absurd h (by dsimp only [RK.cls]; decide +kernel)
theorem is_Every {R : RK} (h : R.cls = "Every") : ∃ m rr inner, R = .ev m rr inner := by
  cases R <;> first | exact ⟨_, _, _, rfl⟩ | exact absurd h (by dsimp only [RK.cls]; decide +kernel)
theorem is_Move {R : RK} (h : R.cls = "Move") : ∃ v d, R = .move v d := by
  cases R <;> first | exact ⟨_, _, rfl⟩ | exact absurd h (by dsimp only [RK.cls]; decide +kernel)
theorem is_Alike {R : RK} (h : R.cls = "Alike") : ∃ a a2 d, R = .alike a a2 d := by
  cases R <;> first | exact ⟨_, _, _, rfl⟩ | exact absurd h (by dsimp only [RK.cls]; decide +kernel)
theorem ints_flat : ∀ d : List Int, (d.map V.int).all flatV = true
  | [] => rfl
  | _ :: d => ints_flat d
theorem at_col {c : List Int} {a : Nat} (h : a < c.length) : atI (iV c) ((a : Nat) : Int) = some (.int (c.getD a 0)) := atI_nat (by
  rw [int_get (List.getElem?_eq_getElem h), List.getD_eq_getElem?_getD, List.getElem?_eq_getElem h]
  rfl)
theorem iteD {c A B : Prop} [Decidable c] (h : c) (a : A) : if decide c = true then A else B := by
  rw [decide_eq_true h]
  exact iteT a
theorem iteND {c A B : Prop} [Decidable c] (h : ¬ c) (b : B) : if decide c = true then A else B := by
  rw [decide_eq_false h]
  exact iteF b
theorem MOk.mono {P : Program} {w : World} {K : PySem.W.Frag} {mg : Str → Option Value} {base : Heap} {C : Addr} {m : Str} {j k : Nat} {ps : List Str} {sp : Sp} (h : MOk P w K mg base C m j ps sp) (hk : j ≤ k) : MOk P w K mg base C m k ps sp := by
  obtain ⟨f, fd, F, r⟩ := h
  exact ⟨f, fd, F.mono hk, r⟩
section
variable {P : Program} {w : World} {K : PySem.W.Frag} {mg : Str → Option Value} {base : Heap}
def sp_start (c : Str) : Sp := fun vs H Q _ => ∃ r : Addr, vs = [.ref r] ∧ Q (.int 0) H
def sp_size (K : PySem.W.Frag) (c : Str) : Sp := fun vs H Q _ => ∃ (r : Addr) (R : RK), vs = [.ref r] ∧ RO K H R r ∧ R.cls = c ∧ Q (.int R.size) H
def sp_after (K : PySem.W.Frag) (c : Str) : Sp := fun vs H Q _ => ∃ (r ca : Addr) (R : RK) (m : Int) (bv : V) (b : Option (List Int)) (col : List Int) (n : Nat), vs = [.ref r, .int m, bv, .ref ca] ∧ RO K H R r ∧ R.cls = c ∧ R.ok n ∧ 0 ≤ m ∧ m < R.size ∧
  BfIs H b bv ∧ (∀ x, b = some x → x.length = n) ∧ H ca = some (.tup (iV col)) ∧ col.length = n ∧ ∀ v H', Same H H' → (v = .non ∨ ∃ k : Int, v = .int k ∧ 0 ≤ k ∧ k < R.size) → Q v H'
def sp_closes (K : PySem.W.Frag) (c : Str) : Sp := fun vs H Q _ => ∃ (r : Addr) (R : RK) (m : Int) (bv : V) (b : Option (List Int)) (n : Nat), vs = [.ref r, .int m, bv] ∧ RO K H R r ∧ R.cls = c ∧ R.ok n ∧
  BfIs H b bv ∧ (∀ x, b = some x → x.length = n) ∧ ∀ bb : Bool, Q (.bl bb) H
theorem st_Span (T : Top K mg base) : MOk P w K mg base (He.ga K "Span") "start" 1 ["self"] (sp_start "Span") := by
  obtain ⟨fd, F⟩ := T.D_Span_start
  refine ⟨_, fd, F.ok sc_Rule_start (fun vs H Q E h => ?_) (fun cdv A outer s H vs Q E hr h => ?_), F.bindsN fun _ _ _ _ _ _ us hl => match us, hl with | [_], _ => rfl, T.c_Span, T.m_Span_start⟩
  · obtain ⟨r, rfl, _⟩ := h
    rfl
  · obtain ⟨r, rfl, q⟩ := h
-- slots: 0 self
-- needs: 
    refine ⟨_, PSs.nox (pss_one (ps_ret pe_int)), ?_⟩
    exact q
theorem st_Clock (T : Top K mg base) : MOk P w K mg base (He.ga K "Clock") "start" 1 ["self"] (sp_start "Clock") := by
  obtain ⟨fd, F⟩ := T.D_Clock_start
  refine ⟨_, fd, F.ok sc_Rule_start (fun vs H Q E h => ?_) (fun cdv A outer s H vs Q E hr h => ?_), F.bindsN fun _ _ _ _ _ _ us hl => match us, hl with | [_], _ => rfl, T.c_Clock, T.m_Clock_start⟩
  · obtain ⟨r, rfl, _⟩ := h
    rfl
  · obtain ⟨r, rfl, q⟩ := h
-- slots: 0 self
-- needs: 
    refine ⟨_, PSs.nox (pss_one (ps_ret pe_int)), ?_⟩
    exact q
theorem st_Begin (T : Top K mg base) : MOk P w K mg base (He.ga K "Begin") "start" 1 ["self"] (sp_start "Begin") := by
  obtain ⟨fd, F⟩ := T.D_Begin_start
  refine ⟨_, fd, F.ok sc_Rule_start (fun vs H Q E h => ?_) (fun cdv A outer s H vs Q E hr h => ?_), F.bindsN fun _ _ _ _ _ _ us hl => match us, hl with | [_], _ => rfl, T.c_Begin, T.m_Begin_start⟩
  · obtain ⟨r, rfl, _⟩ := h
    rfl
  · obtain ⟨r, rfl, q⟩ := h
-- slots: 0 self
-- needs: 
    refine ⟨_, PSs.nox (pss_one (ps_ret pe_int)), ?_⟩
    exact q
theorem st_Close (T : Top K mg base) : MOk P w K mg base (He.ga K "Close") "start" 1 ["self"] (sp_start "Close") := by
  obtain ⟨fd, F⟩ := T.D_Close_start
  refine ⟨_, fd, F.ok sc_Rule_start (fun vs H Q E h => ?_) (fun cdv A outer s H vs Q E hr h => ?_), F.bindsN fun _ _ _ _ _ _ us hl => match us, hl with | [_], _ => rfl, T.c_Close, T.m_Close_start⟩
  · obtain ⟨r, rfl, _⟩ := h
    rfl
  · obtain ⟨r, rfl, q⟩ := h
-- slots: 0 self
-- needs: 
    refine ⟨_, PSs.nox (pss_one (ps_ret pe_int)), ?_⟩
    exact q
theorem st_Back (T : Top K mg base) : MOk P w K mg base (He.ga K "Back") "start" 1 ["self"] (sp_start "Back") := by
  obtain ⟨fd, F⟩ := T.D_Back_start
  refine ⟨_, fd, F.ok sc_Back_start (fun vs H Q E h => ?_) (fun cdv A outer s H vs Q E hr h => ?_), F.bindsN fun _ _ _ _ _ _ us hl => match us, hl with | [_], _ => rfl, T.c_Back, T.m_Back_start⟩
  · obtain ⟨r, rfl, _⟩ := h
    rfl
  · obtain ⟨r, rfl, q⟩ := h
-- slots: 0 self
-- needs: 
    refine ⟨_, PSs.nox (pss_one (ps_ret (pe_gi rfl T.i_CALM))), ?_⟩
    exact q
theorem st_Held (T : Top K mg base) : MOk P w K mg base (He.ga K "Held") "start" 1 ["self"] (sp_start "Held") := by
  obtain ⟨fd, F⟩ := T.D_Held_start
  refine ⟨_, fd, F.ok sc_Rule_start (fun vs H Q E h => ?_) (fun cdv A outer s H vs Q E hr h => ?_), F.bindsN fun _ _ _ _ _ _ us hl => match us, hl with | [_], _ => rfl, T.c_Held, T.m_Held_start⟩
  · obtain ⟨r, rfl, _⟩ := h
    rfl
  · obtain ⟨r, rfl, q⟩ := h
-- slots: 0 self
-- needs: 
    refine ⟨_, PSs.nox (pss_one (ps_ret pe_int)), ?_⟩
    exact q
theorem st_Times (T : Top K mg base) : MOk P w K mg base (He.ga K "Times") "start" 1 ["self"] (sp_start "Times") := by
  obtain ⟨fd, F⟩ := T.D_Times_start
  refine ⟨_, fd, F.ok sc_Rule_start (fun vs H Q E h => ?_) (fun cdv A outer s H vs Q E hr h => ?_), F.bindsN fun _ _ _ _ _ _ us hl => match us, hl with | [_], _ => rfl, T.c_Times, T.m_Times_start⟩
  · obtain ⟨r, rfl, _⟩ := h
    rfl
  · obtain ⟨r, rfl, q⟩ := h
-- slots: 0 self
-- needs: 
    refine ⟨_, PSs.nox (pss_one (ps_ret pe_int)), ?_⟩
    exact q
theorem st_Every (T : Top K mg base) : MOk P w K mg base (He.ga K "Every") "start" 1 ["self"] (sp_start "Every") := by
  obtain ⟨fd, F⟩ := T.D_Every_start
  refine ⟨_, fd, F.ok sc_Rule_start (fun vs H Q E h => ?_) (fun cdv A outer s H vs Q E hr h => ?_), F.bindsN fun _ _ _ _ _ _ us hl => match us, hl with | [_], _ => rfl, T.c_Every, T.m_Every_start⟩
  · obtain ⟨r, rfl, _⟩ := h
    rfl
  · obtain ⟨r, rfl, q⟩ := h
-- slots: 0 self
-- needs: 
    refine ⟨_, PSs.nox (pss_one (ps_ret pe_int)), ?_⟩
    exact q
theorem st_Move (T : Top K mg base) : MOk P w K mg base (He.ga K "Move") "start" 1 ["self"] (sp_start "Move") := by
  obtain ⟨fd, F⟩ := T.D_Move_start
  refine ⟨_, fd, F.ok sc_Rule_start (fun vs H Q E h => ?_) (fun cdv A outer s H vs Q E hr h => ?_), F.bindsN fun _ _ _ _ _ _ us hl => match us, hl with | [_], _ => rfl, T.c_Move, T.m_Move_start⟩
  · obtain ⟨r, rfl, _⟩ := h
    rfl
  · obtain ⟨r, rfl, q⟩ := h
-- slots: 0 self
-- needs: 
    refine ⟨_, PSs.nox (pss_one (ps_ret pe_int)), ?_⟩
    exact q
theorem st_Alike (T : Top K mg base) : MOk P w K mg base (He.ga K "Alike") "start" 1 ["self"] (sp_start "Alike") := by
  obtain ⟨fd, F⟩ := T.D_Alike_start
  refine ⟨_, fd, F.ok sc_Rule_start (fun vs H Q E h => ?_) (fun cdv A outer s H vs Q E hr h => ?_), F.bindsN fun _ _ _ _ _ _ us hl => match us, hl with | [_], _ => rfl, T.c_Alike, T.m_Alike_start⟩
  · obtain ⟨r, rfl, _⟩ := h
    rfl
  · obtain ⟨r, rfl, q⟩ := h
-- slots: 0 self
-- needs: 
    refine ⟨_, PSs.nox (pss_one (ps_ret pe_int)), ?_⟩
    exact q
theorem sz_Span (T : Top K mg base) : MOk P w K mg base (He.ga K "Span") "size" 1 ["self"] (sp_size K "Span") := by
  obtain ⟨fd, F⟩ := T.D_Span_size
  refine ⟨_, fd, F.ok sc_Rule_size (fun vs H Q E h => ?_) (fun cdv A outer s H vs Q E hr h => ?_), F.bindsN fun _ _ _ _ _ _ us hl => match us, hl with | [_], _ => rfl, T.c_Span, T.m_Span_size⟩
  · obtain ⟨r, R, rfl, _⟩ := h
    rfl
  · obtain ⟨r, R, rfl, hR, hc, q⟩ := h
    obtain ⟨a, a2, d, rfl⟩ := is_Span hc
-- slots: 0 self
-- needs: 
    refine ⟨_, PSs.nox (pss_one (ps_ret pe_int)), ?_⟩
    exact q
theorem sz_Clock (T : Top K mg base) : MOk P w K mg base (He.ga K "Clock") "size" 1 ["self"] (sp_size K "Clock") := by
  obtain ⟨fd, F⟩ := T.D_Clock_size
  refine ⟨_, fd, F.ok sc_Rule_size (fun vs H Q E h => ?_) (fun cdv A outer s H vs Q E hr h => ?_), F.bindsN fun _ _ _ _ _ _ us hl => match us, hl with | [_], _ => rfl, T.c_Clock, T.m_Clock_size⟩
  · obtain ⟨r, R, rfl, _⟩ := h
    rfl
  · obtain ⟨r, R, rfl, hR, hc, q⟩ := h
    obtain ⟨a, a2, m, d, rfl⟩ := is_Clock hc
-- slots: 0 self
-- needs: 
    refine ⟨_, PSs.nox (pss_one (ps_ret pe_int)), ?_⟩
    exact q
theorem sz_Begin (T : Top K mg base) : MOk P w K mg base (He.ga K "Begin") "size" 1 ["self"] (sp_size K "Begin") := by
  obtain ⟨fd, F⟩ := T.D_Begin_size
  refine ⟨_, fd, F.ok sc_Rule_size (fun vs H Q E h => ?_) (fun cdv A outer s H vs Q E hr h => ?_), F.bindsN fun _ _ _ _ _ _ us hl => match us, hl with | [_], _ => rfl, T.c_Begin, T.m_Begin_size⟩
  · obtain ⟨r, R, rfl, _⟩ := h
    rfl
  · obtain ⟨r, R, rfl, hR, hc, q⟩ := h
    obtain ⟨v, d, rfl⟩ := is_Begin hc
-- slots: 0 self
-- needs: 
    refine ⟨_, PSs.nox (pss_one (ps_ret pe_int)), ?_⟩
    exact q
theorem sz_Close (T : Top K mg base) : MOk P w K mg base (He.ga K "Close") "size" 1 ["self"] (sp_size K "Close") := by
  obtain ⟨fd, F⟩ := T.D_Close_size
  refine ⟨_, fd, F.ok sc_Rule_size (fun vs H Q E h => ?_) (fun cdv A outer s H vs Q E hr h => ?_), F.bindsN fun _ _ _ _ _ _ us hl => match us, hl with | [_], _ => rfl, T.c_Close, T.m_Close_size⟩
  · obtain ⟨r, R, rfl, _⟩ := h
    rfl
  · obtain ⟨r, R, rfl, hR, hc, q⟩ := h
    obtain ⟨v, d, rfl⟩ := is_Close hc
-- slots: 0 self
-- needs: 
    refine ⟨_, PSs.nox (pss_one (ps_ret pe_int)), ?_⟩
    exact q
theorem sz_Back (T : Top K mg base) : MOk P w K mg base (He.ga K "Back") "size" 1 ["self"] (sp_size K "Back") := by
  obtain ⟨fd, F⟩ := T.D_Back_size
  refine ⟨_, fd, F.ok sc_Back_size (fun vs H Q E h => ?_) (fun cdv A outer s H vs Q E hr h => ?_), F.bindsN fun _ _ _ _ _ _ us hl => match us, hl with | [_], _ => rfl, T.c_Back, T.m_Back_size⟩
  · obtain ⟨r, R, rfl, _⟩ := h
    rfl
  · obtain ⟨r, R, rfl, hR, hc, q⟩ := h
    obtain ⟨v, d, rfl⟩ := is_Back hc
-- slots: 0 self
-- needs: 
    refine ⟨_, PSs.nox (pss_one (ps_ret pe_int)), ?_⟩
    exact q
theorem sz_Held (T : Top K mg base) : MOk P w K mg base (He.ga K "Held") "size" 1 ["self"] (sp_size K "Held") := by
  obtain ⟨fd, F⟩ := T.D_Held_size
  refine ⟨_, fd, F.ok sc_Held_size (fun vs H Q E h => ?_) (fun cdv A outer s H vs Q E hr h => ?_), F.bindsN fun _ _ _ _ _ _ us hl => match us, hl with | [_], _ => rfl, T.c_Held, T.m_Held_size⟩
  · obtain ⟨r, R, rfl, _⟩ := h
    rfl
  · obtain ⟨r, R, rfl, hR, hc, q⟩ := h
    obtain ⟨v, k, rfl⟩ := is_Held hc
-- slots: 0 self
-- needs: 
    refine ⟨_, PSs.nox (pss_one (ps_ret (pe_fld (pv 0) rfl))), ?_⟩
    obtain ⟨dx, fs, hI, hF, _⟩ := hR
    exact ⟨_, rfl, r, _, dx, fs, _, rfl, hI, T.c_Held, T.n_Held_most, hF 1 "most" _ rfl rfl, q⟩
theorem sz_Times (T : Top K mg base) : MOk P w K mg base (He.ga K "Times") "size" 1 ["self"] (sp_size K "Times") := by
  obtain ⟨fd, F⟩ := T.D_Times_size
  refine ⟨_, fd, F.ok sc_Times_size (fun vs H Q E h => ?_) (fun cdv A outer s H vs Q E hr h => ?_), F.bindsN fun _ _ _ _ _ _ us hl => match us, hl with | [_], _ => rfl, T.c_Times, T.m_Times_size⟩
  · obtain ⟨r, R, rfl, _⟩ := h
    rfl
  · obtain ⟨r, R, rfl, hR, hc, q⟩ := h
    obtain ⟨v, x, lo, hi, rfl⟩ := is_Times hc
-- slots: 0 self
-- needs: 
    refine ⟨_, PSs.nox (pss_one (ps_ret (pe_op op_add (pe_fld (pv 0) rfl) pe_int))), ?_⟩
    obtain ⟨dx, fs, hI, hF, _⟩ := hR
    exact ⟨_, rfl, r, _, dx, fs, _, rfl, hI, T.c_Times, T.n_Times_high, hF 3 "high" _ rfl rfl, _, _, rfl, rfl, q⟩
theorem sz_Every (T : Top K mg base) : MOk P w K mg base (He.ga K "Every") "size" 1 ["self"] (sp_size K "Every") := by
  obtain ⟨fd, F⟩ := T.D_Every_size
  refine ⟨_, fd, F.ok sc_Every_size (fun vs H Q E h => ?_) (fun cdv A outer s H vs Q E hr h => ?_), F.bindsN fun _ _ _ _ _ _ us hl => match us, hl with | [_], _ => rfl, T.c_Every, T.m_Every_size⟩
  · obtain ⟨r, R, rfl, _⟩ := h
    rfl
  · obtain ⟨r, R, rfl, hR, hc, q⟩ := h
    obtain ⟨m, rr, inner, rfl⟩ := is_Every hc
-- slots: 0 self
-- needs: 
    refine ⟨_, PSs.nox (pss_one (ps_ret (pe_fld (pv 0) rfl))), ?_⟩
    obtain ⟨qa, ⟨dx, fs, hI, hF, _⟩, _⟩ := hR
    exact ⟨_, rfl, r, _, dx, fs, _, rfl, hI, T.c_Every, T.n_Every_beat, hF 0 "beat" _ rfl rfl, q⟩
theorem sz_Move (T : Top K mg base) : MOk P w K mg base (He.ga K "Move") "size" 1 ["self"] (sp_size K "Move") := by
  obtain ⟨fd, F⟩ := T.D_Move_size
  refine ⟨_, fd, F.ok sc_Rule_size (fun vs H Q E h => ?_) (fun cdv A outer s H vs Q E hr h => ?_), F.bindsN fun _ _ _ _ _ _ us hl => match us, hl with | [_], _ => rfl, T.c_Move, T.m_Move_size⟩
  · obtain ⟨r, R, rfl, _⟩ := h
    rfl
  · obtain ⟨r, R, rfl, hR, hc, q⟩ := h
    obtain ⟨v, d, rfl⟩ := is_Move hc
-- slots: 0 self
-- needs: 
    refine ⟨_, PSs.nox (pss_one (ps_ret pe_int)), ?_⟩
    exact q
theorem sz_Alike (T : Top K mg base) : MOk P w K mg base (He.ga K "Alike") "size" 1 ["self"] (sp_size K "Alike") := by
  obtain ⟨fd, F⟩ := T.D_Alike_size
  refine ⟨_, fd, F.ok sc_Rule_size (fun vs H Q E h => ?_) (fun cdv A outer s H vs Q E hr h => ?_), F.bindsN fun _ _ _ _ _ _ us hl => match us, hl with | [_], _ => rfl, T.c_Alike, T.m_Alike_size⟩
  · obtain ⟨r, R, rfl, _⟩ := h
    rfl
  · obtain ⟨r, R, rfl, hR, hc, q⟩ := h
    obtain ⟨a, a2, d, rfl⟩ := is_Alike hc
-- slots: 0 self
-- needs: 
    refine ⟨_, PSs.nox (pss_one (ps_ret pe_int)), ?_⟩
    exact q
theorem af_Span (T : Top K mg base) : MOk P w K mg base (He.ga K "Span") "after" 1 ["self", "memory", "before", "column"] (sp_after K "Span") := by
  obtain ⟨fd, F⟩ := T.D_Span_after
  refine ⟨_, fd, F.ok sc_Span_after (fun vs H Q E h => ?_) (fun cdv A outer s H vs Q E hr h => ?_), F.bindsN fun _ _ _ _ _ _ us hl => match us, hl with | [_, _, _, _], _ => rfl, T.c_Span, T.m_Span_after⟩
  · obtain ⟨r, ca, R, m, bv, b, col, n, rfl, _⟩ := h
    rfl
  · obtain ⟨r, ca, R, mm, bv, b, col, n, rfl, hR, hc, ok, h0, h1, hb, hbl, hca, hcl, q⟩ := h
    have kM : Q (.int mm) H := q _ H (Same.refl H) (.inr ⟨mm, rfl, h0, h1⟩)
    have kN : Q .non H := q _ H (Same.refl H) (.inl rfl)
    obtain ⟨a, a2, d, rfl⟩ := is_Span hc
    obtain ⟨qa, ⟨dx, fs, hI, hF, _⟩, hq⟩ := hR
-- slots: 0 self 1 memory 2 before 3 column
-- needs: 
    refine ⟨_, PSs.nox (pss_cons (ps_if (pt_cmpR op_in_seq (pe_op op_sub (pe_ix ix_tup (pv 3) (pe_fld (pv 0) rfl) (fun _ _ => rfl)) (pe_ix ix_tup (pv 3) (pe_fld (pv 0) rfl) (fun _ _ => rfl))) (pe_fld (pv 0) rfl) (by rfl))
        (pss_one (ps_ret (pv 1)))
        pss_nil)
      (pss_one (ps_ret pe_non))), ?_⟩
    exact ⟨_, rfl, _, rfl, r, _, dx, fs, _, rfl, hI, T.c_Span, T.n_Span_other, hF 1 "other" _ rfl rfl, ca, _, _, _, rfl, rfl, sqt hca, at_col (a := a2) (by have := ok; dsimp only [RK.ok] at this; omega), _, rfl, _, rfl, r, _, dx, fs, _, rfl, hI, T.c_Span, T.n_Span_one, hF 0 "one" _ rfl rfl, ca, _, _, _, rfl, rfl, sqt hca, at_col (a := a) (by have := ok; dsimp only [RK.ok] at this; omega), _, _, rfl, rfl, _, rfl, r, _, dx, fs, _, rfl, hI, T.c_Span, T.n_Span_some, hF 2 "some" _ rfl rfl, qa, _, rfl, .inl (sql hq), rfl, ints_flat _, _, rfl, ite2 (fun _ => ⟨_, rfl, kM⟩) (fun _ => kN)⟩
theorem af_Clock (T : Top K mg base) : MOk P w K mg base (He.ga K "Clock") "after" 1 ["self", "memory", "before", "column"] (sp_after K "Clock") := by
  obtain ⟨fd, F⟩ := T.D_Clock_after
  refine ⟨_, fd, F.ok sc_Clock_after (fun vs H Q E h => ?_) (fun cdv A outer s H vs Q E hr h => ?_), F.bindsN fun _ _ _ _ _ _ us hl => match us, hl with | [_, _, _, _], _ => rfl, T.c_Clock, T.m_Clock_after⟩
  · obtain ⟨r, ca, R, m, bv, b, col, n, rfl, _⟩ := h
    rfl
  · obtain ⟨r, ca, R, mm, bv, b, col, n, rfl, hR, hc, ok, h0, h1, hb, hbl, hca, hcl, q⟩ := h
    have kM : Q (.int mm) H := q _ H (Same.refl H) (.inr ⟨mm, rfl, h0, h1⟩)
    have kN : Q .non H := q _ H (Same.refl H) (.inl rfl)
    obtain ⟨a, a2, m, d, rfl⟩ := is_Clock hc
    obtain ⟨qa, ⟨dx, fs, hI, hF, _⟩, hq⟩ := hR
-- slots: 0 self 1 memory 2 before 3 column
-- needs: 
    refine ⟨_, PSs.nox (pss_cons (ps_if (pt_cmpR op_in_seq (pe_op op_mod (pe_op op_sub (pe_ix ix_tup (pv 3) (pe_fld (pv 0) rfl) (fun _ _ => rfl)) (pe_ix ix_tup (pv 3) (pe_fld (pv 0) rfl) (fun _ _ => rfl))) (pe_fld (pv 0) rfl)) (pe_fld (pv 0) rfl) (by rfl))
        (pss_one (ps_ret (pv 1)))
        pss_nil)
      (pss_one (ps_ret pe_non))), ?_⟩
    exact ⟨_, rfl, _, rfl, r, _, dx, fs, _, rfl, hI, T.c_Clock, T.n_Clock_other, hF 1 "other" _ rfl rfl, ca, _, _, _, rfl, rfl, sqt hca, at_col (a := a2) (by have := ok; dsimp only [RK.ok] at this; omega), _, rfl, _, rfl, r, _, dx, fs, _, rfl, hI, T.c_Clock, T.n_Clock_one, hF 0 "one" _ rfl rfl, ca, _, _, _, rfl, rfl, sqt hca, at_col (a := a) (by have := ok; dsimp only [RK.ok] at this; omega), _, _, rfl, rfl, _, rfl, r, _, dx, fs, _, rfl, hI, T.c_Clock, T.n_Clock_beat, hF 2 "beat" _ rfl rfl, _, _, rfl, rfl, (by have := ok; dsimp only [RK.ok] at this; omega), _, rfl, r, _, dx, fs, _, rfl, hI, T.c_Clock, T.n_Clock_some, hF 3 "some" _ rfl rfl, qa, _, rfl, .inl (sql hq), rfl, ints_flat _, _, rfl, ite2 (fun _ => ⟨_, rfl, kM⟩) (fun _ => kN)⟩
theorem af_Begin (T : Top K mg base) : MOk P w K mg base (He.ga K "Begin") "after" 1 ["self", "memory", "before", "column"] (sp_after K "Begin") := by
  obtain ⟨fd, F⟩ := T.D_Begin_after
  refine ⟨_, fd, F.ok sc_Begin_after (fun vs H Q E h => ?_) (fun cdv A outer s H vs Q E hr h => ?_), F.bindsN fun _ _ _ _ _ _ us hl => match us, hl with | [_, _, _, _], _ => rfl, T.c_Begin, T.m_Begin_after⟩
  · obtain ⟨r, ca, R, m, bv, b, col, n, rfl, _⟩ := h
    rfl
  · obtain ⟨r, ca, R, mm, bv, b, col, n, rfl, hR, hc, ok, h0, h1, hb, hbl, hca, hcl, q⟩ := h
    have kM : Q (.int mm) H := q _ H (Same.refl H) (.inr ⟨mm, rfl, h0, h1⟩)
    have kN : Q .non H := q _ H (Same.refl H) (.inl rfl)
    obtain ⟨v, d, rfl⟩ := is_Begin hc
    obtain ⟨qa, ⟨dx, fs, hI, hF, _⟩, hq⟩ := hR
-- slots: 0 self 1 memory 2 before 3 column
-- needs: 
    refine ⟨_, PSs.nox (pss_cons (ps_if (PW.pt (pw_and (pt_cmpR op_isN (pv 2) pe_non (nomark _)) (pw_and1 (pt_cmpR op_notIn_seq (pe_ix ix_tup (pv 3) (pe_fld (pv 0) rfl) (fun _ _ => rfl)) (pe_fld (pv 0) rfl) (by rfl)))))
        (pss_one (ps_ret pe_non))
        pss_nil)
      (pss_one (ps_ret (pv 1)))), ?_⟩
    exact ⟨_, rfl, rfl, _, rfl, ite2 (fun _ => ⟨_, rfl, _, rfl, r, _, dx, fs, _, rfl, hI, T.c_Begin, T.n_Begin_voice, hF 0 "voice" _ rfl rfl, ca, _, _, _, rfl, rfl, sqt hca, at_col (a := v) (by have := ok; dsimp only [RK.ok] at this; omega), _, rfl, r, _, dx, fs, _, rfl, hI, T.c_Begin, T.n_Begin_some, hF 1 "some" _ rfl rfl, qa, _, rfl, .inl (sql hq), rfl, ints_flat _, _, rfl, ite2 (fun _ => kN) (fun _ => ⟨_, rfl, kM⟩)⟩) (fun _ => iteF ⟨_, rfl, kM⟩)⟩
theorem af_Close (T : Top K mg base) : MOk P w K mg base (He.ga K "Close") "after" 1 ["self", "memory", "before", "column"] (sp_after K "Close") := by
  obtain ⟨fd, F⟩ := T.D_Close_after
  refine ⟨_, fd, F.ok sc_Rule_after (fun vs H Q E h => ?_) (fun cdv A outer s H vs Q E hr h => ?_), F.bindsN fun _ _ _ _ _ _ us hl => match us, hl with | [_, _, _, _], _ => rfl, T.c_Close, T.m_Close_after⟩
  · obtain ⟨r, ca, R, m, bv, b, col, n, rfl, _⟩ := h
    rfl
  · obtain ⟨r, ca, R, mm, bv, b, col, n, rfl, hR, hc, ok, h0, h1, hb, hbl, hca, hcl, q⟩ := h
    have kM : Q (.int mm) H := q _ H (Same.refl H) (.inr ⟨mm, rfl, h0, h1⟩)
    have kN : Q .non H := q _ H (Same.refl H) (.inl rfl)
-- slots: 0 self 1 memory 2 before 3 column
-- needs: 
    refine ⟨_, PSs.nox (pss_one (ps_ret (pv 1))), ?_⟩
    exact ⟨_, rfl, kM⟩
theorem af_Back (T : Top K mg base) : MOk P w K mg base (He.ga K "Back") "after" 1 ["self", "memory", "before", "column"] (sp_after K "Back") := by
  obtain ⟨fd, F⟩ := T.D_Back_after
  refine ⟨_, fd, F.ok sc_Back_after (fun vs H Q E h => ?_) (fun cdv A outer s H vs Q E hr h => ?_), F.bindsN fun _ _ _ _ _ _ us hl => match us, hl with | [_, _, _, _], _ => rfl, T.c_Back, T.m_Back_after⟩
  · obtain ⟨r, ca, R, m, bv, b, col, n, rfl, _⟩ := h
    rfl
  · obtain ⟨r, ca, R, mm, bv, b, col, n, rfl, hR, hc, ok, h0, h1, hb, hbl, hca, hcl, q⟩ := h
    have kM : Q (.int mm) H := q _ H (Same.refl H) (.inr ⟨mm, rfl, h0, h1⟩)
    have kN : Q .non H := q _ H (Same.refl H) (.inl rfl)
    obtain ⟨v, d, rfl⟩ := is_Back hc
    obtain ⟨dx, fs, hI, hF, _⟩ := hR
-- slots: 0 self 1 memory 2 before 3 column 4 move
-- needs: 
    refine ⟨_, PSs.nox (pss_cons (ps_if (pt_cmpR op_isN (pv 2) pe_non (nomark _))
        (pss_one (ps_ret (pe_gi rfl T.i_CALM)))
        pss_nil)
      (pss_cons (ps_set (i := 4) sc_Back_after.nd rfl (by first | exact Or.inl rfl | exact Or.inr rfl) (pe_op op_sub (pe_ix ix_tup (pv 3) (pe_fld (pv 0) rfl) (fun _ _ => rfl)) (pe_ix ix_tup (pv 2) (pe_fld (pv 0) rfl) (fun _ _ => rfl))))
      (pss_cons (ps_if (PW.pt (pw_or (PW.pt (pw_and (pt_cmpR op_eq (pv 1) (pe_gi rfl T.i_UP) (nomark _)) (pw_and1 (pt_cmpR op_ge (pv 4) pe_int (nomark _))))) (pw_or1 (PW.pt (pw_and (pt_cmpR op_eq (pv 1) (pe_gi rfl T.i_DOWN) (nomark _)) (pw_and1 (pt_cmpR op_le (pv 4) pe_int (nomark _))))))))
        (pss_one (ps_ret pe_non))
        pss_nil)
      (pss_cons (ps_if (pt_cmpR op_gt (pv 4) (pe_fld (pv 0) rfl) (nomark _))
        (pss_one (ps_ret (pe_gi rfl T.i_UP)))
        pss_nil)
      (pss_cons (ps_if (pt_cmpR op_lt (pv 4) (pe_op op_sub pe_int (pe_fld (pv 0) rfl)) (nomark _))
        (pss_one (ps_ret (pe_gi rfl T.i_DOWN)))
        pss_nil)
      (pss_one (ps_ret (pe_gi rfl T.i_CALM)))))))), ?_⟩
    have k0 : Q (.int 0) H := q _ H (Same.refl H) (.inr ⟨0, rfl, by decide, by dsimp only [RK.size]; decide⟩)
    have k1 : Q (.int 1) H := q _ H (Same.refl H) (.inr ⟨1, rfl, by decide, by dsimp only [RK.size]; decide⟩)
    have k2 : Q (.int 2) H := q _ H (Same.refl H) (.inr ⟨2, rfl, by decide, by dsimp only [RK.size]; decide⟩)
    cases b with
    | none =>
      have e : bv = .non := hb
      subst e
      exact ⟨_, rfl, rfl, _, rfl, iteD rfl k0⟩
    | some x =>
      obtain ⟨ba, e, hba⟩ := hb
      subst e
      have hx : x.length = n := hbl x rfl
      refine ⟨_, rfl, rfl, _, rfl, iteND (fun z => by cases z) ⟨_, rfl, _, rfl, r, _, dx, fs, _, rfl, hI, T.c_Back, T.n_Back_voice, hF 0 "voice" _ rfl rfl, ca, _, _, _, rfl, rfl, sqt hca, at_col (a := v) (by have := ok; dsimp only [RK.ok] at this; omega), _, rfl, _, rfl, r, _, dx, fs, _, rfl, hI, T.c_Back, T.n_Back_voice, hF 0 "voice" _ rfl rfl, ba, _, _, _, rfl, rfl, sqt hba, at_col (a := v) (by have := ok; dsimp only [RK.ok] at this; omega), _, _, rfl, rfl, ?_⟩⟩
      refine ⟨_, rfl, rfl, _, rfl, ite2 (fun _ => ⟨_, rfl, _, _, rfl, rfl, _, rfl, ite2 (fun _ => iteT kN) (fun _ => ?_)⟩) (fun _ => iteF ?_)⟩
      all_goals exact ⟨_, rfl, rfl, _, rfl, ite2 (fun _ => ⟨_, rfl, _, _, rfl, rfl, _, rfl, ite2 (fun _ => kN) (fun _ => ⟨_, rfl, _, rfl, r, _, dx, fs, _, rfl, hI, T.c_Back, T.n_Back_far, hF 1 "far" _ rfl rfl, _, _, rfl, rfl, _, rfl, ite2 (fun _ => k1) (fun _ => ⟨_, rfl, _, rfl, r, _, dx, fs, _, rfl, hI, T.c_Back, T.n_Back_far, hF 1 "far" _ rfl rfl, _, _, rfl, rfl, _, _, rfl, rfl, _, rfl, ite2 (fun _ => k2) (fun _ => k0)⟩)⟩)⟩) (fun _ => iteF ⟨_, rfl, _, rfl, r, _, dx, fs, _, rfl, hI, T.c_Back, T.n_Back_far, hF 1 "far" _ rfl rfl, _, _, rfl, rfl, _, rfl, ite2 (fun _ => k1) (fun _ => ⟨_, rfl, _, rfl, r, _, dx, fs, _, rfl, hI, T.c_Back, T.n_Back_far, hF 1 "far" _ rfl rfl, _, _, rfl, rfl, _, _, rfl, rfl, _, rfl, ite2 (fun _ => k2) (fun _ => k0)⟩)⟩)⟩
theorem af_Held (T : Top K mg base) : MOk P w K mg base (He.ga K "Held") "after" 1 ["self", "memory", "before", "column"] (sp_after K "Held") := by
  obtain ⟨fd, F⟩ := T.D_Held_after
  refine ⟨_, fd, F.ok sc_Held_after (fun vs H Q E h => ?_) (fun cdv A outer s H vs Q E hr h => ?_), F.bindsN fun _ _ _ _ _ _ us hl => match us, hl with | [_, _, _, _], _ => rfl, T.c_Held, T.m_Held_after⟩
  · obtain ⟨r, ca, R, m, bv, b, col, n, rfl, _⟩ := h
    rfl
  · obtain ⟨r, ca, R, mm, bv, b, col, n, rfl, hR, hc, ok, h0, h1, hb, hbl, hca, hcl, q⟩ := h
    have kM : Q (.int mm) H := q _ H (Same.refl H) (.inr ⟨mm, rfl, h0, h1⟩)
    have kN : Q .non H := q _ H (Same.refl H) (.inl rfl)
    obtain ⟨v, k, rfl⟩ := is_Held hc
    obtain ⟨dx, fs, hI, hF, _⟩ := hR
-- slots: 0 self 1 memory 2 before 3 column
-- needs: 
    refine ⟨_, PSs.nox (pss_cons (ps_if (PW.pt (pw_or (pt_cmpR op_isN (pv 2) pe_non (nomark _)) (pw_or1 (pt_cmpR op_ne (pe_ix ix_tup (pv 3) (pe_fld (pv 0) rfl) (fun _ _ => rfl)) (pe_ix ix_tup (pv 2) (pe_fld (pv 0) rfl) (fun _ _ => rfl)) (nomark _)))))
        (pss_one (ps_ret pe_int))
        pss_nil)
      (pss_cons (ps_if (pt_cmpR op_eq (pe_op op_add (pv 1) pe_int) (pe_fld (pv 0) rfl) (nomark _))
        (pss_one (ps_ret pe_non))
        pss_nil)
      (pss_one (ps_ret (pe_op op_add (pv 1) pe_int))))), ?_⟩
    have k0 : Q (.int 0) H := q _ H (Same.refl H) (.inr ⟨0, rfl, by decide, by have := ok; dsimp only [RK.ok] at this; dsimp only [RK.size]; omega⟩)
    cases b with
    | none =>
      have e : bv = .non := hb
      subst e
      exact ⟨_, rfl, rfl, _, rfl, iteD rfl (iteT k0)⟩
    | some x =>
      obtain ⟨ba, e, hba⟩ := hb
      subst e
      have hx : x.length = n := hbl x rfl
      refine ⟨_, rfl, rfl, _, rfl, iteND (fun z => by cases z) ⟨_, rfl, _, rfl, r, _, dx, fs, _, rfl, hI, T.c_Held, T.n_Held_voice, hF 0 "voice" _ rfl rfl, ca, _, _, _, rfl, rfl, sqt hca, at_col (a := v) (by have := ok; dsimp only [RK.ok] at this; omega), _, rfl, _, rfl, r, _, dx, fs, _, rfl, hI, T.c_Held, T.n_Held_voice, hF 0 "voice" _ rfl rfl, ba, _, _, _, rfl, rfl, sqt hba, at_col (a := v) (by have := ok; dsimp only [RK.ok] at this; omega), rfl, _, rfl, ite2 (fun _ => k0) (fun _ => ?_)⟩⟩
      refine ⟨_, rfl, _, _, rfl, rfl, _, rfl, r, _, dx, fs, _, rfl, hI, T.c_Held, T.n_Held_most, hF 1 "most" _ rfl rfl, rfl, _, rfl, ite2 (fun _ => kN) (fun hne => ?_)⟩
      refine ⟨_, rfl, _, _, rfl, rfl, q _ H (Same.refl H) (.inr ⟨mm + 1, rfl, by omega, ?_⟩)⟩
      have hne2 : ¬ mm + 1 = k := fun e => hne (decide_eq_true (congrArg V.int e))
      dsimp only [RK.size] at h1 ⊢
      omega
theorem af_Times (T : Top K mg base) : MOk P w K mg base (He.ga K "Times") "after" 1 ["self", "memory", "before", "column"] (sp_after K "Times") := by
  obtain ⟨fd, F⟩ := T.D_Times_after
  refine ⟨_, fd, F.ok sc_Times_after (fun vs H Q E h => ?_) (fun cdv A outer s H vs Q E hr h => ?_), F.bindsN fun _ _ _ _ _ _ us hl => match us, hl with | [_, _, _, _], _ => rfl, T.c_Times, T.m_Times_after⟩
  · obtain ⟨r, ca, R, m, bv, b, col, n, rfl, _⟩ := h
    rfl
  · obtain ⟨r, ca, R, mm, bv, b, col, n, rfl, hR, hc, ok, h0, h1, hb, hbl, hca, hcl, q⟩ := h
    have kM : Q (.int mm) H := q _ H (Same.refl H) (.inr ⟨mm, rfl, h0, h1⟩)
    have kN : Q .non H := q _ H (Same.refl H) (.inl rfl)
    obtain ⟨v, x, lo, hi, rfl⟩ := is_Times hc
    obtain ⟨dx, fs, hI, hF, _⟩ := hR
-- slots: 0 self 1 memory 2 before 3 column
-- needs: 
    refine ⟨_, PSs.nox (pss_cons (ps_if (pt_cmpR op_ne (pe_ix ix_tup (pv 3) (pe_fld (pv 0) rfl) (fun _ _ => rfl)) (pe_fld (pv 0) rfl) (nomark _))
        (pss_one (ps_ret (pv 1)))
        pss_nil)
      (pss_cons (ps_if (pt_cmpR op_eq (pv 1) (pe_fld (pv 0) rfl) (nomark _))
        (pss_one (ps_ret pe_non))
        pss_nil)
      (pss_one (ps_ret (pe_op op_add (pv 1) pe_int))))), ?_⟩
    refine ⟨_, rfl, _, rfl, r, _, dx, fs, _, rfl, hI, T.c_Times, T.n_Times_voice, hF 0 "voice" _ rfl rfl, ca, _, _, _, rfl, rfl, sqt hca, at_col (a := v) (by have := ok; dsimp only [RK.ok] at this; omega), _, rfl, r, _, dx, fs, _, rfl, hI, T.c_Times, T.n_Times_note, hF 1 "note" _ rfl rfl, rfl, _, rfl, ite2 (fun _ => ⟨_, rfl, kM⟩) (fun _ => ?_)⟩
    refine ⟨_, rfl, _, rfl, r, _, dx, fs, _, rfl, hI, T.c_Times, T.n_Times_high, hF 3 "high" _ rfl rfl, rfl, _, rfl, ite2 (fun _ => kN) (fun hne => ?_)⟩
    refine ⟨_, rfl, _, _, rfl, rfl, q _ H (Same.refl H) (.inr ⟨mm + 1, rfl, by omega, ?_⟩)⟩
    have hne2 : ¬ mm = hi := fun e => hne (decide_eq_true (congrArg V.int e))
    dsimp only [RK.size] at h1 ⊢
    omega
theorem af_Every (T : Top K mg base) : MOk P w K mg base (He.ga K "Every") "after" 2 ["self", "memory", "before", "column"] (sp_after K "Every") := by
  have R_after : ROk P w K mg base ["Span", "Clock"] "after" 1 ["self", "memory", "before", "column"] (sp_after K) := fun c hc => by
    rcases List.mem_cons.mp hc with rfl | hc
    · exact af_Span T
    · rw [List.mem_singleton.mp hc]
      exact af_Clock T
  have R_start : ROk P w K mg base ["Span", "Clock"] "start" 1 ["self"] sp_start := fun c hc => by
    rcases List.mem_cons.mp hc with rfl | hc
    · exact st_Span T
    · rw [List.mem_singleton.mp hc]
      exact st_Clock T
  obtain ⟨fd, F⟩ := T.D_Every_after
  refine ⟨_, fd, F.ok sc_Every_after (fun vs H Q E h => ?_) (fun cdv A outer s H vs Q E hr h => ?_), F.bindsN fun _ _ _ _ _ _ us hl => match us, hl with | [_, _, _, _], _ => rfl, T.c_Every, T.m_Every_after⟩
  · obtain ⟨r, ca, R, m, bv, b, col, n, rfl, _⟩ := h
    rfl
  · obtain ⟨r, ca, R, mm, bv, b, col, n, rfl, hR, hc, ok, h0, h1, hb, hbl, hca, hcl, q⟩ := h
    have kM : Q (.int mm) H := q _ H (Same.refl H) (.inr ⟨mm, rfl, h0, h1⟩)
    have kN : Q .non H := q _ H (Same.refl H) (.inl rfl)
    obtain ⟨m, rr, inner, rfl⟩ := is_Every hc
    obtain ⟨qa, ⟨dx, fs, hI, hF, _⟩, hq⟩ := hR
-- slots: 0 self 1 memory 2 before 3 column 4 rule
-- needs: R_after R_start
    refine ⟨_, PSs.nox (pss_cons (ps_if (pt_cmpR op_eq (pv 1) (pe_fld (pv 0) rfl) (nomark _))
        (pss_cons (ps_set (i := 4) sc_Every_after.nd rfl (by first | exact Or.inl rfl | exact Or.inr rfl) (pe_fld (pv 0) rfl))
        (pss_one (ps_if (pt_cmpR op_isN (rcall R_after (hr.mono (by decide)) (pv 4) (pa_cons (rcall0 R_start (hr.mono (by decide)) (pv 4)) (pa_cons (pv 2) (pa_cons (pv 3) pa_nil)))) pe_non (nomark _))
          (pss_one (ps_ret pe_non))
          pss_nil)))
        pss_nil)
      (pss_one (ps_ret (pe_op op_mod (pe_op op_add (pv 1) pe_int) (pe_fld (pv 0) rfl))))), ?_⟩
    obtain ⟨hm1, hm2, hr0, hr1, hin, hio⟩ := ok
    have kE : ∀ H', Same H H' → Q (.int ((mm + 1) % m)) H' := fun H' s => q _ H' s (.inr ⟨_, rfl, Int.emod_nonneg _ (by omega), Int.emod_lt_of_pos _ (by omega)⟩)
    refine ⟨_, rfl, _, rfl, r, _, dx, fs, _, rfl, hI, T.c_Every, T.n_Every_at, hF 1 "at" _ rfl rfl, rfl, _, rfl, ite2 (fun _ => ?_) (fun _ => ?_)⟩
    · refine ⟨_, rfl, r, _, dx, fs, _, rfl, hI, T.c_Every, T.n_Every_rule, hF 2 "rule" _ rfl rfl, ?_⟩
      obtain ⟨dx2, fs2, g1, g2⟩ := hq.ins
      have hcl2 : inner.cls ∈ (["Span", "Clock"] : List Str) := by
        rcases hin with ⟨a2, b2, d2, e⟩ | ⟨a2, b2, k2, d2, e⟩
        · rw [e]
          dsimp only [RK.cls]
          decide +kernel
        · rw [e]
          dsimp only [RK.cls]
          decide +kernel
      have hsz := RK.size_pos hio
      refine ⟨_, rfl, _, hcl2, qa, dx2, fs2, rfl, g1, g2 "after" (by decide +kernel), _, rfl, _, hcl2, qa, dx2, fs2, rfl, g1, g2 "start" (by decide +kernel), qa, rfl, _, rfl, _, rfl, ?_⟩
      refine ⟨qa, ca, inner, 0, bv, b, col, n, rfl, hq, rfl, hio, by omega, by omega, hb, hbl, hca, hcl, fun v H' s' _ => ?_⟩
      refine ⟨rfl, _, rfl, ite2 (fun _ => ?_) (fun _ => ?_)⟩
      · exact q _ H' s' (.inl rfl)
      · exact ⟨_, rfl, _, _, rfl, rfl, _, rfl, r, _, dx, fs, _, rfl, s' _ _ hI, T.c_Every, T.n_Every_beat, hF 0 "beat" _ rfl rfl, _, _, rfl, rfl, (by omega), kE H' s'⟩
    · exact ⟨_, rfl, _, _, rfl, rfl, _, rfl, r, _, dx, fs, _, rfl, hI, T.c_Every, T.n_Every_beat, hF 0 "beat" _ rfl rfl, _, _, rfl, rfl, (by omega), kE H (Same.refl H)⟩
theorem af_Move (T : Top K mg base) : MOk P w K mg base (He.ga K "Move") "after" 1 ["self", "memory", "before", "column"] (sp_after K "Move") := by
  obtain ⟨fd, F⟩ := T.D_Move_after
  refine ⟨_, fd, F.ok sc_Move_after (fun vs H Q E h => ?_) (fun cdv A outer s H vs Q E hr h => ?_), F.bindsN fun _ _ _ _ _ _ us hl => match us, hl with | [_, _, _, _], _ => rfl, T.c_Move, T.m_Move_after⟩
  · obtain ⟨r, ca, R, m, bv, b, col, n, rfl, _⟩ := h
    rfl
  · obtain ⟨r, ca, R, mm, bv, b, col, n, rfl, hR, hc, ok, h0, h1, hb, hbl, hca, hcl, q⟩ := h
    have kM : Q (.int mm) H := q _ H (Same.refl H) (.inr ⟨mm, rfl, h0, h1⟩)
    have kN : Q .non H := q _ H (Same.refl H) (.inl rfl)
    obtain ⟨v, d, rfl⟩ := is_Move hc
    obtain ⟨qa, ⟨dx, fs, hI, hF, _⟩, hq⟩ := hR
-- slots: 0 self 1 memory 2 before 3 column
-- needs: 
    refine ⟨_, PSs.nox (pss_cons (ps_if (PW.pt (pw_or (pt_cmpR op_isN (pv 2) pe_non (nomark _)) (pw_or1 (pt_cmpR op_in_seq (pe_op op_sub (pe_ix ix_tup (pv 3) (pe_fld (pv 0) rfl) (fun _ _ => rfl)) (pe_ix ix_tup (pv 2) (pe_fld (pv 0) rfl) (fun _ _ => rfl))) (pe_fld (pv 0) rfl) (by rfl)))))
        (pss_one (ps_ret (pv 1)))
        pss_nil)
      (pss_one (ps_ret pe_non))), ?_⟩
    cases b with
    | none =>
      have e : bv = .non := hb
      subst e
      exact ⟨_, rfl, rfl, _, rfl, iteD rfl (iteT ⟨_, rfl, kM⟩)⟩
    | some x =>
      obtain ⟨ba, e, hba⟩ := hb
      subst e
      have hx : x.length = n := hbl x rfl
      exact ⟨_, rfl, rfl, _, rfl, iteND (fun z => by cases z) ⟨_, rfl, _, rfl, r, _, dx, fs, _, rfl, hI, T.c_Move, T.n_Move_voice, hF 0 "voice" _ rfl rfl, ca, _, _, _, rfl, rfl, sqt hca, at_col (a := v) (by have := ok; dsimp only [RK.ok] at this; omega), _, rfl, _, rfl, r, _, dx, fs, _, rfl, hI, T.c_Move, T.n_Move_voice, hF 0 "voice" _ rfl rfl, ba, _, _, _, rfl, rfl, sqt hba, at_col (a := v) (by have := ok; dsimp only [RK.ok] at this; omega), _, _, rfl, rfl, _, rfl, r, _, dx, fs, _, rfl, hI, T.c_Move, T.n_Move_some, hF 1 "some" _ rfl rfl, qa, _, rfl, .inl (sql hq), rfl, ints_flat _, _, rfl, ite2 (fun _ => ⟨_, rfl, kM⟩) (fun _ => kN)⟩⟩
theorem af_Alike (T : Top K mg base) : MOk P w K mg base (He.ga K "Alike") "after" 1 ["self", "memory", "before", "column"] (sp_after K "Alike") := by
  obtain ⟨fd, F⟩ := T.D_Alike_after
  refine ⟨_, fd, F.ok sc_Alike_after (fun vs H Q E h => ?_) (fun cdv A outer s H vs Q E hr h => ?_), F.bindsN fun _ _ _ _ _ _ us hl => match us, hl with | [_, _, _, _], _ => rfl, T.c_Alike, T.m_Alike_after⟩
  · obtain ⟨r, ca, R, m, bv, b, col, n, rfl, _⟩ := h
    rfl
  · obtain ⟨r, ca, R, mm, bv, b, col, n, rfl, hR, hc, ok, h0, h1, hb, hbl, hca, hcl, q⟩ := h
    have kM : Q (.int mm) H := q _ H (Same.refl H) (.inr ⟨mm, rfl, h0, h1⟩)
    have kN : Q .non H := q _ H (Same.refl H) (.inl rfl)
    obtain ⟨a, a2, d, rfl⟩ := is_Alike hc
    obtain ⟨qa, ⟨dx, fs, hI, hF, _⟩, hq⟩ := hR
-- slots: 0 self 1 memory 2 before 3 column 4 span
-- needs: 
    refine ⟨_, PSs.nox (pss_cons (ps_if (PW.pt (pw_or (pt_cmpR op_isN (pv 2) pe_non (nomark _)) (pw_or1 (pt_cmpR op_eq (pe_ix ix_tup (pv 3) (pe_fld (pv 0) rfl) (fun _ _ => rfl)) (pe_ix ix_tup (pv 2) (pe_fld (pv 0) rfl) (fun _ _ => rfl)) (nomark _)))))
        (pss_one (ps_ret (pv 1)))
        pss_nil)
      (pss_cons (ps_set (i := 4) sc_Alike_after.nd rfl (by first | exact Or.inl rfl | exact Or.inr rfl) (pe_op op_sub (pe_ix ix_tup (pv 3) (pe_fld (pv 0) rfl) (fun _ _ => rfl)) (pe_ix ix_tup (pv 3) (pe_fld (pv 0) rfl) (fun _ _ => rfl))))
      (pss_cons (ps_if (PW.pt (pw_and (pt_cmpR op_eq (pv 4) (pe_op op_sub (pe_ix ix_tup (pv 2) (pe_fld (pv 0) rfl) (fun _ _ => rfl)) (pe_ix ix_tup (pv 2) (pe_fld (pv 0) rfl) (fun _ _ => rfl))) (nomark _)) (pw_and1 (pt_cmpR op_in_seq (pv 4) (pe_fld (pv 0) rfl) (by rfl)))))
        (pss_one (ps_ret pe_non))
        pss_nil)
      (pss_one (ps_ret (pv 1)))))), ?_⟩
    cases b with
    | none =>
      have e : bv = .non := hb
      subst e
      exact ⟨_, rfl, rfl, _, rfl, iteD rfl (iteT ⟨_, rfl, kM⟩)⟩
    | some x =>
      obtain ⟨ba, e, hba⟩ := hb
      subst e
      have hx : x.length = n := hbl x rfl
      refine ⟨_, rfl, rfl, _, rfl, iteND (fun z => by cases z) ⟨_, rfl, _, rfl, r, _, dx, fs, _, rfl, hI, T.c_Alike, T.n_Alike_one, hF 0 "one" _ rfl rfl, ca, _, _, _, rfl, rfl, sqt hca, at_col (a := a) (by have := ok; dsimp only [RK.ok] at this; omega), _, rfl, _, rfl, r, _, dx, fs, _, rfl, hI, T.c_Alike, T.n_Alike_one, hF 0 "one" _ rfl rfl, ba, _, _, _, rfl, rfl, sqt hba, at_col (a := a) (by have := ok; dsimp only [RK.ok] at this; omega), rfl, _, rfl, ite2 (fun _ => ⟨_, rfl, kM⟩) (fun _ => ?_)⟩⟩
      exact ⟨_, rfl, _, rfl, r, _, dx, fs, _, rfl, hI, T.c_Alike, T.n_Alike_other, hF 1 "other" _ rfl rfl, ca, _, _, _, rfl, rfl, sqt hca, at_col (a := a2) (by have := ok; dsimp only [RK.ok] at this; omega), _, rfl, _, rfl, r, _, dx, fs, _, rfl, hI, T.c_Alike, T.n_Alike_one, hF 0 "one" _ rfl rfl, ca, _, _, _, rfl, rfl, sqt hca, at_col (a := a) (by have := ok; dsimp only [RK.ok] at this; omega), _, _, rfl, rfl, _, rfl, _, rfl, _, rfl, r, _, dx, fs, _, rfl, hI, T.c_Alike, T.n_Alike_other, hF 1 "other" _ rfl rfl, ba, _, _, _, rfl, rfl, sqt hba, at_col (a := a2) (by have := ok; dsimp only [RK.ok] at this; omega), _, rfl, _, rfl, r, _, dx, fs, _, rfl, hI, T.c_Alike, T.n_Alike_one, hF 0 "one" _ rfl rfl, ba, _, _, _, rfl, rfl, sqt hba, at_col (a := a) (by have := ok; dsimp only [RK.ok] at this; omega), _, _, rfl, rfl, rfl, _, rfl, ite2 (fun _ => ⟨_, rfl, _, rfl, r, _, dx, fs, _, rfl, hI, T.c_Alike, T.n_Alike_some, hF 2 "some" _ rfl rfl, qa, _, rfl, .inl (sql hq), rfl, ints_flat _, _, rfl, ite2 (fun _ => kN) (fun _ => ⟨_, rfl, kM⟩)⟩) (fun _ => iteF ⟨_, rfl, kM⟩)⟩
theorem cl_Span (T : Top K mg base) : MOk P w K mg base (He.ga K "Span") "closes" 1 ["self", "memory", "last"] (sp_closes K "Span") := by
  obtain ⟨fd, F⟩ := T.D_Span_closes
  refine ⟨_, fd, F.ok sc_Rule_closes (fun vs H Q E h => ?_) (fun cdv A outer s H vs Q E hr h => ?_), F.bindsN fun _ _ _ _ _ _ us hl => match us, hl with | [_, _, _], _ => rfl, T.c_Span, T.m_Span_closes⟩
  · obtain ⟨r, R, m, bv, b, n, rfl, _⟩ := h
    rfl
  · obtain ⟨r, R, mm, bv, b, n, rfl, hR, hc, ok, hb, hbl, q⟩ := h
-- slots: 0 self 1 memory 2 last
-- needs: 
    refine ⟨_, PSs.nox (pss_one (ps_ret pe_bl)), ?_⟩
    exact q true
theorem cl_Clock (T : Top K mg base) : MOk P w K mg base (He.ga K "Clock") "closes" 1 ["self", "memory", "last"] (sp_closes K "Clock") := by
  obtain ⟨fd, F⟩ := T.D_Clock_closes
  refine ⟨_, fd, F.ok sc_Rule_closes (fun vs H Q E h => ?_) (fun cdv A outer s H vs Q E hr h => ?_), F.bindsN fun _ _ _ _ _ _ us hl => match us, hl with | [_, _, _], _ => rfl, T.c_Clock, T.m_Clock_closes⟩
  · obtain ⟨r, R, m, bv, b, n, rfl, _⟩ := h
    rfl
  · obtain ⟨r, R, mm, bv, b, n, rfl, hR, hc, ok, hb, hbl, q⟩ := h
-- slots: 0 self 1 memory 2 last
-- needs: 
    refine ⟨_, PSs.nox (pss_one (ps_ret pe_bl)), ?_⟩
    exact q true
theorem cl_Begin (T : Top K mg base) : MOk P w K mg base (He.ga K "Begin") "closes" 1 ["self", "memory", "last"] (sp_closes K "Begin") := by
  obtain ⟨fd, F⟩ := T.D_Begin_closes
  refine ⟨_, fd, F.ok sc_Rule_closes (fun vs H Q E h => ?_) (fun cdv A outer s H vs Q E hr h => ?_), F.bindsN fun _ _ _ _ _ _ us hl => match us, hl with | [_, _, _], _ => rfl, T.c_Begin, T.m_Begin_closes⟩
  · obtain ⟨r, R, m, bv, b, n, rfl, _⟩ := h
    rfl
  · obtain ⟨r, R, mm, bv, b, n, rfl, hR, hc, ok, hb, hbl, q⟩ := h
-- slots: 0 self 1 memory 2 last
-- needs: 
    refine ⟨_, PSs.nox (pss_one (ps_ret pe_bl)), ?_⟩
    exact q true
theorem cl_Close (T : Top K mg base) : MOk P w K mg base (He.ga K "Close") "closes" 1 ["self", "memory", "last"] (sp_closes K "Close") := by
  obtain ⟨fd, F⟩ := T.D_Close_closes
  refine ⟨_, fd, F.ok sc_Close_closes (fun vs H Q E h => ?_) (fun cdv A outer s H vs Q E hr h => ?_), F.bindsN fun _ _ _ _ _ _ us hl => match us, hl with | [_, _, _], _ => rfl, T.c_Close, T.m_Close_closes⟩
  · obtain ⟨r, R, m, bv, b, n, rfl, _⟩ := h
    rfl
  · obtain ⟨r, R, mm, bv, b, n, rfl, hR, hc, ok, hb, hbl, q⟩ := h
    obtain ⟨v, d, rfl⟩ := is_Close hc
    obtain ⟨qa, ⟨dx, fs, hI, hF, _⟩, hq⟩ := hR
-- slots: 0 self 1 memory 2 last
-- needs: 
    refine ⟨_, PSs.nox (pss_one (ps_ret (pe_or (pe_cmpR op_isN (pv 2) pe_non (nomark _)) (pe_one (pe_cmpR op_in_seq (pe_ix ix_tup (pv 2) (pe_fld (pv 0) rfl) (fun _ _ => rfl)) (pe_fld (pv 0) rfl) (by rfl)))))), ?_⟩
    cases b with
    | none =>
      have e : bv = .non := hb
      subst e
      exact ⟨_, rfl, rfl, _, rfl, iteD rfl (q true)⟩
    | some x =>
      obtain ⟨ba, e, hba⟩ := hb
      subst e
      have hx : x.length = n := hbl x rfl
      exact ⟨_, rfl, rfl, _, rfl, iteND (fun z => by cases z) ⟨_, rfl, _, rfl, r, _, dx, fs, _, rfl, hI, T.c_Close, T.n_Close_voice, hF 0 "voice" _ rfl rfl, ba, _, _, _, rfl, rfl, sqt hba, at_col (a := v) (by have := ok; dsimp only [RK.ok] at this; omega), _, rfl, r, _, dx, fs, _, rfl, hI, T.c_Close, T.n_Close_some, hF 1 "some" _ rfl rfl, qa, _, rfl, .inl (sql hq), rfl, ints_flat _, q _⟩⟩
theorem cl_Back (T : Top K mg base) : MOk P w K mg base (He.ga K "Back") "closes" 1 ["self", "memory", "last"] (sp_closes K "Back") := by
  obtain ⟨fd, F⟩ := T.D_Back_closes
  refine ⟨_, fd, F.ok sc_Back_closes (fun vs H Q E h => ?_) (fun cdv A outer s H vs Q E hr h => ?_), F.bindsN fun _ _ _ _ _ _ us hl => match us, hl with | [_, _, _], _ => rfl, T.c_Back, T.m_Back_closes⟩
  · obtain ⟨r, R, m, bv, b, n, rfl, _⟩ := h
    rfl
  · obtain ⟨r, R, mm, bv, b, n, rfl, hR, hc, ok, hb, hbl, q⟩ := h
-- slots: 0 self 1 memory 2 last
-- needs: 
    refine ⟨_, PSs.nox (pss_one (ps_ret (pe_cmpR op_eq (pv 1) (pe_gi rfl T.i_CALM) (nomark _)))), ?_⟩
    exact ⟨_, rfl, rfl, q _⟩
theorem cl_Held (T : Top K mg base) : MOk P w K mg base (He.ga K "Held") "closes" 1 ["self", "memory", "last"] (sp_closes K "Held") := by
  obtain ⟨fd, F⟩ := T.D_Held_closes
  refine ⟨_, fd, F.ok sc_Rule_closes (fun vs H Q E h => ?_) (fun cdv A outer s H vs Q E hr h => ?_), F.bindsN fun _ _ _ _ _ _ us hl => match us, hl with | [_, _, _], _ => rfl, T.c_Held, T.m_Held_closes⟩
  · obtain ⟨r, R, m, bv, b, n, rfl, _⟩ := h
    rfl
  · obtain ⟨r, R, mm, bv, b, n, rfl, hR, hc, ok, hb, hbl, q⟩ := h
-- slots: 0 self 1 memory 2 last
-- needs: 
    refine ⟨_, PSs.nox (pss_one (ps_ret pe_bl)), ?_⟩
    exact q true
theorem cl_Times (T : Top K mg base) : MOk P w K mg base (He.ga K "Times") "closes" 1 ["self", "memory", "last"] (sp_closes K "Times") := by
  obtain ⟨fd, F⟩ := T.D_Times_closes
  refine ⟨_, fd, F.ok sc_Times_closes (fun vs H Q E h => ?_) (fun cdv A outer s H vs Q E hr h => ?_), F.bindsN fun _ _ _ _ _ _ us hl => match us, hl with | [_, _, _], _ => rfl, T.c_Times, T.m_Times_closes⟩
  · obtain ⟨r, R, m, bv, b, n, rfl, _⟩ := h
    rfl
  · obtain ⟨r, R, mm, bv, b, n, rfl, hR, hc, ok, hb, hbl, q⟩ := h
    obtain ⟨v, x, lo, hi, rfl⟩ := is_Times hc
    obtain ⟨dx, fs, hI, hF, _⟩ := hR
-- slots: 0 self 1 memory 2 last
-- needs: 
    refine ⟨_, PSs.nox (pss_one (ps_ret (pe_cmpR op_ge (pv 1) (pe_fld (pv 0) rfl) (nomark _)))), ?_⟩
    exact ⟨_, rfl, _, rfl, r, _, dx, fs, _, rfl, hI, T.c_Times, T.n_Times_low, hF 2 "low" _ rfl rfl, _, _, rfl, rfl, q _⟩
theorem cl_Every (T : Top K mg base) : MOk P w K mg base (He.ga K "Every") "closes" 1 ["self", "memory", "last"] (sp_closes K "Every") := by
  obtain ⟨fd, F⟩ := T.D_Every_closes
  refine ⟨_, fd, F.ok sc_Rule_closes (fun vs H Q E h => ?_) (fun cdv A outer s H vs Q E hr h => ?_), F.bindsN fun _ _ _ _ _ _ us hl => match us, hl with | [_, _, _], _ => rfl, T.c_Every, T.m_Every_closes⟩
  · obtain ⟨r, R, m, bv, b, n, rfl, _⟩ := h
    rfl
  · obtain ⟨r, R, mm, bv, b, n, rfl, hR, hc, ok, hb, hbl, q⟩ := h
-- slots: 0 self 1 memory 2 last
-- needs: 
    refine ⟨_, PSs.nox (pss_one (ps_ret pe_bl)), ?_⟩
    exact q true
theorem cl_Move (T : Top K mg base) : MOk P w K mg base (He.ga K "Move") "closes" 1 ["self", "memory", "last"] (sp_closes K "Move") := by
  obtain ⟨fd, F⟩ := T.D_Move_closes
  refine ⟨_, fd, F.ok sc_Rule_closes (fun vs H Q E h => ?_) (fun cdv A outer s H vs Q E hr h => ?_), F.bindsN fun _ _ _ _ _ _ us hl => match us, hl with | [_, _, _], _ => rfl, T.c_Move, T.m_Move_closes⟩
  · obtain ⟨r, R, m, bv, b, n, rfl, _⟩ := h
    rfl
  · obtain ⟨r, R, mm, bv, b, n, rfl, hR, hc, ok, hb, hbl, q⟩ := h
-- slots: 0 self 1 memory 2 last
-- needs: 
    refine ⟨_, PSs.nox (pss_one (ps_ret pe_bl)), ?_⟩
    exact q true
theorem cl_Alike (T : Top K mg base) : MOk P w K mg base (He.ga K "Alike") "closes" 1 ["self", "memory", "last"] (sp_closes K "Alike") := by
  obtain ⟨fd, F⟩ := T.D_Alike_closes
  refine ⟨_, fd, F.ok sc_Rule_closes (fun vs H Q E h => ?_) (fun cdv A outer s H vs Q E hr h => ?_), F.bindsN fun _ _ _ _ _ _ us hl => match us, hl with | [_, _, _], _ => rfl, T.c_Alike, T.m_Alike_closes⟩
  · obtain ⟨r, R, m, bv, b, n, rfl, _⟩ := h
    rfl
  · obtain ⟨r, R, mm, bv, b, n, rfl, hR, hc, ok, hb, hbl, q⟩ := h
-- slots: 0 self 1 memory 2 last
-- needs: 
    refine ⟨_, PSs.nox (pss_one (ps_ret pe_bl)), ?_⟩
    exact q true
theorem R_start (T : Top K mg base) : ROk P w K mg base ruleNames "start" 1 ["self"] sp_start := fun c hc => by
  unfold ruleNames at hc
  rcases List.mem_cons.mp hc with rfl | hc
  · exact (st_Span T).mono (by decide)
  rcases List.mem_cons.mp hc with rfl | hc
  · exact (st_Clock T).mono (by decide)
  rcases List.mem_cons.mp hc with rfl | hc
  · exact (st_Begin T).mono (by decide)
  rcases List.mem_cons.mp hc with rfl | hc
  · exact (st_Close T).mono (by decide)
  rcases List.mem_cons.mp hc with rfl | hc
  · exact (st_Back T).mono (by decide)
  rcases List.mem_cons.mp hc with rfl | hc
  · exact (st_Held T).mono (by decide)
  rcases List.mem_cons.mp hc with rfl | hc
  · exact (st_Times T).mono (by decide)
  rcases List.mem_cons.mp hc with rfl | hc
  · exact (st_Every T).mono (by decide)
  rcases List.mem_cons.mp hc with rfl | hc
  · exact (st_Move T).mono (by decide)
  rcases List.mem_cons.mp hc with rfl | hc
  · exact (st_Alike T).mono (by decide)
  cases hc
theorem R_size (T : Top K mg base) : ROk P w K mg base ruleNames "size" 1 ["self"] (sp_size K) := fun c hc => by
  unfold ruleNames at hc
  rcases List.mem_cons.mp hc with rfl | hc
  · exact (sz_Span T).mono (by decide)
  rcases List.mem_cons.mp hc with rfl | hc
  · exact (sz_Clock T).mono (by decide)
  rcases List.mem_cons.mp hc with rfl | hc
  · exact (sz_Begin T).mono (by decide)
  rcases List.mem_cons.mp hc with rfl | hc
  · exact (sz_Close T).mono (by decide)
  rcases List.mem_cons.mp hc with rfl | hc
  · exact (sz_Back T).mono (by decide)
  rcases List.mem_cons.mp hc with rfl | hc
  · exact (sz_Held T).mono (by decide)
  rcases List.mem_cons.mp hc with rfl | hc
  · exact (sz_Times T).mono (by decide)
  rcases List.mem_cons.mp hc with rfl | hc
  · exact (sz_Every T).mono (by decide)
  rcases List.mem_cons.mp hc with rfl | hc
  · exact (sz_Move T).mono (by decide)
  rcases List.mem_cons.mp hc with rfl | hc
  · exact (sz_Alike T).mono (by decide)
  cases hc
theorem R_after (T : Top K mg base) : ROk P w K mg base ruleNames "after" 2 ["self", "memory", "before", "column"] (sp_after K) := fun c hc => by
  unfold ruleNames at hc
  rcases List.mem_cons.mp hc with rfl | hc
  · exact (af_Span T).mono (by decide)
  rcases List.mem_cons.mp hc with rfl | hc
  · exact (af_Clock T).mono (by decide)
  rcases List.mem_cons.mp hc with rfl | hc
  · exact (af_Begin T).mono (by decide)
  rcases List.mem_cons.mp hc with rfl | hc
  · exact (af_Close T).mono (by decide)
  rcases List.mem_cons.mp hc with rfl | hc
  · exact (af_Back T).mono (by decide)
  rcases List.mem_cons.mp hc with rfl | hc
  · exact (af_Held T).mono (by decide)
  rcases List.mem_cons.mp hc with rfl | hc
  · exact (af_Times T).mono (by decide)
  rcases List.mem_cons.mp hc with rfl | hc
  · exact (af_Every T).mono (by decide)
  rcases List.mem_cons.mp hc with rfl | hc
  · exact (af_Move T).mono (by decide)
  rcases List.mem_cons.mp hc with rfl | hc
  · exact (af_Alike T).mono (by decide)
  cases hc
theorem R_closes (T : Top K mg base) : ROk P w K mg base ruleNames "closes" 1 ["self", "memory", "last"] (sp_closes K) := fun c hc => by
  unfold ruleNames at hc
  rcases List.mem_cons.mp hc with rfl | hc
  · exact (cl_Span T).mono (by decide)
  rcases List.mem_cons.mp hc with rfl | hc
  · exact (cl_Clock T).mono (by decide)
  rcases List.mem_cons.mp hc with rfl | hc
  · exact (cl_Begin T).mono (by decide)
  rcases List.mem_cons.mp hc with rfl | hc
  · exact (cl_Close T).mono (by decide)
  rcases List.mem_cons.mp hc with rfl | hc
  · exact (cl_Back T).mono (by decide)
  rcases List.mem_cons.mp hc with rfl | hc
  · exact (cl_Held T).mono (by decide)
  rcases List.mem_cons.mp hc with rfl | hc
  · exact (cl_Times T).mono (by decide)
  rcases List.mem_cons.mp hc with rfl | hc
  · exact (cl_Every T).mono (by decide)
  rcases List.mem_cons.mp hc with rfl | hc
  · exact (cl_Move T).mono (by decide)
  rcases List.mem_cons.mp hc with rfl | hc
  · exact (cl_Alike T).mono (by decide)
  cases hc
end
end Fv
set_option Elab.async false
set_option linter.all false
set_option maxRecDepth 100000
set_option maxHeartbeats 4000000
/-! Rules read from their words. -/
namespace Fv
open PySem PySem.Spec PyProof.Rows L2 _root_.TL
def RK.nums : RK → List Int
  | .span a b d => ((a : Int) + 1) :: ((b : Int) + 1) :: d
  | .clock a b m d => ((a : Int) + 1) :: ((b : Int) + 1) :: m :: d
  | .alike a b d => ((a : Int) + 1) :: ((b : Int) + 1) :: d
  | .move v d => ((v : Int) + 1) :: d
  | .back v d => [((v : Int) + 1), d]
  | .held v k => [((v : Int) + 1), k]
  | .times v x lo hi => [((v : Int) + 1), x, lo, hi]
  | .beg v d => ((v : Int) + 1) :: d
  | .clo v d => ((v : Int) + 1) :: d
  | .ev m r _ => [m, r]
/-- the words behind the first -/
def RK.rest : RK → List Str
  | .ev m r inner => nS m :: nS r :: inner.kind :: inner.rest
  | R => R.nums.map nS
def RK.words (R : RK) : List Str := R.kind :: R.rest
def rowS (R : RK) : Str := Txt.join " " R.words
theorem kne {a b : Str} (h : (a == b) = false) : ¬ V.str a = V.str b := fun z => by
  have h2 : a = b := V.str.inj z
  rw [h2, beq_self_eq_true] at h
  cases h
theorem cut_from (xs : List V) {i : Int} (k : Nat) (hi : i = ((k : Nat) : Int)) : cutV xs (some i) none = xs.drop k := by
  subst hi
  unfold cutV
  rw [HT.sIx_nat, HT.sIx_none]
  by_cases h : k ≤ xs.length
  · rw [Nat.min_eq_left h, ← List.length_drop, List.take_length]
  · rw [Nat.min_eq_right (by omega), List.drop_of_length_le (Nat.le_refl _), List.drop_of_length_le (by omega)]
    exact List.take_nil
theorem cut_two (xs : List V) {i i2 : Int} (j k : Nat) (e1 : i = ((j : Nat) : Int)) (e2 : i2 = ((k : Nat) : Int)) (h : k ≤ xs.length) (hj : j ≤ k) : cutV xs (some i) (some i2) = (xs.drop j).take (k - j) := by
  subst e1 e2
  unfold cutV
  rw [HT.sIx_nat, HT.sIx_nat, Nat.min_eq_left h, Nat.min_eq_left (by omega)]
theorem made_same {H1 H' : Hp} {x dx : Addr} {o o2 : HO} (hx : H1 x = none) (hdx : H1 dx = none) (h : ∀ b, b ≠ x → H' b = upd (upd H1 dx o) x o2 b) : Same H1 H' := fun a u e => by
  have h1 : a ≠ x := ne_of_none e hx
  have h2 : a ≠ dx := ne_of_none e hdx
  rw [h a h1, upd_ne h1, upd_ne h2]
  exact e
def RK.isC : RK → Prop
  | .span .. => True
  | .clock .. => True
  | _ => False
def RK.isV : RK → Prop
  | .move .. => True
  | .back .. => True
  | .held .. => True
  | .times .. => True
  | .beg .. => True
  | .clo .. => True
  | _ => False
section
variable {P : Program} {w : World} {K : PySem.W.Frag} {mg : Str → Option Value} {base : Heap}
abbrev Made (K : PySem.W.Frag) (H : Hp) (R : RK) (Q : VK) : Prop := ∀ p H', Same H H' → RO K H' R p → Q (.ref p) H'
def sp_column_rule (K : PySem.W.Frag) : Sp := fun vs H Q _ => ∃ (t : Str) (na : Addr) (n : Nat) (rv : V) (R : RK), vs = [.str t, .str R.kind, .ref na, .int n, rv] ∧ R.isC ∧ R.ok n ∧ SqL K H na (R.nums.map V.int) ∧ Made K H R Q
def sp_alike_rule (K : PySem.W.Frag) : Sp := fun vs H Q _ => ∃ (t : Str) (na : Addr) (n : Nat) (rv : V) (a b : Nat) (d : List Int), vs = [.str t, .ref na, .int n, rv] ∧ RK.ok n (.alike a b d) ∧ SqL K H na ((RK.nums (.alike a b d)).map V.int) ∧ Made K H (.alike a b d) Q
def sp_voice_rule (K : PySem.W.Frag) : Sp := fun vs H Q _ => ∃ (t : Str) (na : Addr) (n : Nat) (rv : V) (R : RK), vs = [.str t, .str R.kind, .ref na, .int n, rv] ∧ R.isV ∧ R.ok n ∧ SqL K H na (R.nums.map V.int) ∧ Made K H R Q
theorem ok_column_rule (T : Top K mg base) : DOk P w K mg base "column_rule" 4 ["text", "kind", "numbers", "voices", "row"] (sp_column_rule K) := by
  have G_look_at := ok_look_at (P := P) (w := w) T
  have G_some_of := ok_some_of (P := P) (w := w) T
  have M_Span := mk_Span (P := P) (w := w) T
  have M_Clock := mk_Clock (P := P) (w := w) T
  obtain ⟨fd, F⟩ := T.D_column_rule
  refine ⟨fd, F.ok sc_column_rule (fun vs H Q E h => ?_) (fun cdv A outer s H vs Q E hr h => ?_), F.bindsN fun _ _ _ _ _ _ us hl => match us, hl with | [_, _, _, _, _], _ => rfl, F.kp, T.g_column_rule⟩
  · obtain ⟨t, na, n, rv, R, rfl, _⟩ := h
    rfl
  · obtain ⟨t, na, n, rv, R, rfl, hC, hk, hS, q⟩ := h
-- slots: 0 text 1 kind 2 numbers 3 voices 4 row 5 one 6 other
-- needs: look_at mk_Span some_of mk_Clock
    refine ⟨_, PSs.nox (pss_cons (ps_expr (dcall G_look_at (hr.mono (by decide)) (by rfl) (pa_cons (pe_cmpR op_gt (pe_callB call_len (by rfl) T.b_len PySem.boot_len (pa_cons (pv 2) pa_nil)) pe_int (nomark _)) (pa_cons (pv 4) pa_nil))))
      (pss_cons (ps_set (i := 5) sc_column_rule.nd rfl (by first | exact Or.inl rfl | exact Or.inr rfl) (pe_ix ix_list (pv 2) pe_int (fun _ _ => rfl)))
      (pss_cons (ps_set (i := 6) sc_column_rule.nd rfl (by first | exact Or.inl rfl | exact Or.inr rfl) (pe_ix ix_list (pv 2) pe_int (fun _ _ => rfl)))
      (pss_cons (ps_expr (dcall G_look_at (hr.mono (by decide)) (by rfl) (pa_cons (pe_and (pe_chain op_le op_le pe_int (pv 5) (pv 3)) (pe_one (pe_chain op_le op_le pe_int (pv 6) (pv 3)))) (pa_cons (pv 4) pa_nil))))
      (pss_cons (ps_if (pt_cmpR op_eq (pv 1) pe_str (nomark _))
        (pss_one (ps_ret (kmake M_Span (hr.mono (by decide)) (by rfl) (pa_cons (pv 0) (pa_cons (pe_op op_sub (pv 5) pe_int) (pa_cons (pe_op op_sub (pv 6) pe_int) (pa_cons (dcall G_some_of (hr.mono (by decide)) (by rfl) (pa_cons (pe_slice sl_list (pv 2) (po_some pe_int) po_none) (pa_cons (pv 4) pa_nil))) pa_nil)))))))
        pss_nil)
      (pss_cons (ps_expr (dcall G_look_at (hr.mono (by decide)) (by rfl) (pa_cons (pe_cmpR op_ge (pe_ix ix_list (pv 2) pe_int (fun _ _ => rfl)) pe_int (nomark _)) (pa_cons (pv 4) pa_nil))))
      (pss_one (ps_ret (kmake M_Clock (hr.mono (by decide)) (by rfl) (pa_cons (pv 0) (pa_cons (pe_op op_sub (pv 5) pe_int) (pa_cons (pe_op op_sub (pv 6) pe_int) (pa_cons (pe_ix ix_list (pv 2) pe_int (fun _ _ => rfl)) (pa_cons (dcall G_some_of (hr.mono (by decide)) (by rfl) (pa_cons (pe_slice sl_list (pv 2) (po_some pe_int) po_none) (pa_cons (pv 4) pa_nil))) pa_nil)))))))))))))), ?_⟩
    match R, hC, hk, hS, q with
    | .span a b d, _, hk, hS, q =>
      have ln : ((RK.nums (.span a b d)).map V.int).length = d.length + 2 := by simp [RK.nums]
      obtain ⟨ha, hb, hd⟩ := id hk
      obtain ⟨hd1, hd2, _⟩ := id hd
      refine ⟨_, rfl, _, _, rfl, .inl ⟨_, hS, rfl⟩, _, _, rfl, rfl, _, rfl, _, congrArg (fun b => [V.bl b, rv]) (decide_eq_true (by rw [ln]; omega)), _, rfl, na, _, _, _, rfl, rfl, hS, atI_nat (j := 0) rfl, _, rfl, na, _, _, _, rfl, rfl, hS, atI_nat (j := 1) rfl, _, rfl, _, _, rfl, rfl, _, rfl, iteD (by omega) ⟨_, rfl, _, _, rfl, rfl, _, rfl, iteD (by omega) ⟨_, rfl, _, _, rfl, rfl, _, rfl, iteD (by omega) ⟨_, rfl, _, _, rfl, rfl, _, rfl, _, congrArg (fun b => [V.bl b, rv]) (decide_eq_true (by omega)), ?_⟩⟩⟩⟩
      refine ⟨_, rfl, rfl, _, rfl, iteD rfl ⟨_, rfl, _, rfl, _, _, rfl, rfl, _, rfl, _, _, rfl, rfl, _, rfl, 2, rfl, na, _, rfl, hS, fun p hp => ⟨_, rfl, p, d, rv, rfl, sql (by rw [upd_same, cut_from (i := 2) _ 2 rfl]; rfl), hd1, hd2, fun p2 hp2 => fun oo dx hx hdx hne => ⟨oo, dx, t, [.int (a : Nat), .int (b : Nat), .ref p2], (by simp only [Int.add_sub_cancel] <;> rfl), rfl, upd_same, fun H2 hb hr2 => ⟨rfl, ?_⟩⟩⟩⟩⟩
      have SM := ((Same.new hp).trans (Same.new hp2)).trans (made_same hx hdx hb)
      exact q oo H2 SM ⟨_, ROf.made hr2 rfl (by decide +kernel) (by decide +kernel), made_same hx hdx hb _ _ upd_same⟩
    | .clock a b m d, _, hk, hS, q =>
      have ln : ((RK.nums (.clock a b m d)).map V.int).length = d.length + 3 := by simp [RK.nums]
      obtain ⟨ha, hb, hm, _, hd⟩ := id hk
      obtain ⟨hd1, hd2, _⟩ := id hd
      refine ⟨_, rfl, _, _, rfl, .inl ⟨_, hS, rfl⟩, _, _, rfl, rfl, _, rfl, _, congrArg (fun b => [V.bl b, rv]) (decide_eq_true (by rw [ln]; omega)), _, rfl, na, _, _, _, rfl, rfl, hS, atI_nat (j := 0) rfl, _, rfl, na, _, _, _, rfl, rfl, hS, atI_nat (j := 1) rfl, _, rfl, _, _, rfl, rfl, _, rfl, iteD (by omega) ⟨_, rfl, _, _, rfl, rfl, _, rfl, iteD (by omega) ⟨_, rfl, _, _, rfl, rfl, _, rfl, iteD (by omega) ⟨_, rfl, _, _, rfl, rfl, _, rfl, _, congrArg (fun b => [V.bl b, rv]) (decide_eq_true (by omega)), ?_⟩⟩⟩⟩
      refine ⟨_, rfl, rfl, _, rfl, iteND (kne (a := "clock") (by decide +kernel)) ⟨_, rfl, na, _, _, _, rfl, rfl, hS, atI_nat (j := 2) rfl, _, _, rfl, rfl, _, rfl, _, congrArg (fun b => [V.bl b, rv]) (decide_eq_true (by omega)), _, rfl, _, rfl, _, _, rfl, rfl, _, rfl, _, _, rfl, rfl, _, rfl, na, _, _, _, rfl, rfl, hS, atI_nat (j := 2) rfl, _, rfl, 3, rfl, na, _, rfl, hS, fun p hp => ⟨_, rfl, p, d, rv, rfl, sql (by rw [upd_same, cut_from (i := 3) _ 3 rfl]; rfl), hd1, hd2, fun p2 hp2 => fun oo dx hx hdx hne => ⟨oo, dx, t, [.int (a : Nat), .int (b : Nat), .int m, .ref p2], (by simp only [Int.add_sub_cancel] <;> rfl), rfl, upd_same, fun H2 hb hr2 => ⟨rfl, ?_⟩⟩⟩⟩⟩
      have SM := ((Same.new hp).trans (Same.new hp2)).trans (made_same hx hdx hb)
      exact q oo H2 SM ⟨_, ROf.made hr2 rfl (by decide +kernel) (by decide +kernel), made_same hx hdx hb _ _ upd_same⟩
theorem ok_alike_rule (T : Top K mg base) : DOk P w K mg base "alike_rule" 4 ["text", "numbers", "voices", "row"] (sp_alike_rule K) := by
  have G_look_at := ok_look_at (P := P) (w := w) T
  have G_some_of := ok_some_of (P := P) (w := w) T
  have M_Alike := mk_Alike (P := P) (w := w) T
  obtain ⟨fd, F⟩ := T.D_alike_rule
  refine ⟨fd, F.ok sc_alike_rule (fun vs H Q E h => ?_) (fun cdv A outer s H vs Q E hr h => ?_), F.bindsN fun _ _ _ _ _ _ us hl => match us, hl with | [_, _, _, _], _ => rfl, F.kp, T.g_alike_rule⟩
  · obtain ⟨t, na, n, rv, a, b, d, rfl, _⟩ := h
    rfl
  · obtain ⟨t, na, n, rv, a, b, d, rfl, hk, hS, q⟩ := h
-- slots: 0 text 1 numbers 2 voices 3 row 4 one 5 other
-- needs: look_at mk_Alike some_of
    refine ⟨_, PSs.nox (pss_cons (ps_expr (dcall G_look_at (hr.mono (by decide)) (by rfl) (pa_cons (pe_cmpR op_gt (pe_callB call_len (by rfl) T.b_len PySem.boot_len (pa_cons (pv 1) pa_nil)) pe_int (nomark _)) (pa_cons (pv 3) pa_nil))))
      (pss_cons (ps_set (i := 4) sc_alike_rule.nd rfl (by first | exact Or.inl rfl | exact Or.inr rfl) (pe_ix ix_list (pv 1) pe_int (fun _ _ => rfl)))
      (pss_cons (ps_set (i := 5) sc_alike_rule.nd rfl (by first | exact Or.inl rfl | exact Or.inr rfl) (pe_ix ix_list (pv 1) pe_int (fun _ _ => rfl)))
      (pss_cons (ps_expr (dcall G_look_at (hr.mono (by decide)) (by rfl) (pa_cons (pe_and (pe_chain op_le op_le pe_int (pv 4) (pv 2)) (pe_one (pe_chain op_le op_le pe_int (pv 5) (pv 2)))) (pa_cons (pv 3) pa_nil))))
      (pss_one (ps_ret (kmake M_Alike (hr.mono (by decide)) (by rfl) (pa_cons (pv 0) (pa_cons (pe_op op_sub (pv 4) pe_int) (pa_cons (pe_op op_sub (pv 5) pe_int) (pa_cons (dcall G_some_of (hr.mono (by decide)) (by rfl) (pa_cons (pe_slice sl_list (pv 1) (po_some pe_int) po_none) (pa_cons (pv 3) pa_nil))) pa_nil))))))))))), ?_⟩
    have ln : ((RK.nums (.alike a b d)).map V.int).length = d.length + 2 := by simp [RK.nums]
    obtain ⟨ha, hb, hd⟩ := id hk
    obtain ⟨hd1, hd2, _⟩ := id hd
    refine ⟨_, rfl, _, _, rfl, .inl ⟨_, hS, rfl⟩, _, _, rfl, rfl, _, rfl, _, congrArg (fun b => [V.bl b, rv]) (decide_eq_true (by rw [ln]; omega)), _, rfl, na, _, _, _, rfl, rfl, hS, atI_nat (j := 0) rfl, _, rfl, na, _, _, _, rfl, rfl, hS, atI_nat (j := 1) rfl, _, rfl, _, _, rfl, rfl, _, rfl, iteD (by omega) ⟨_, rfl, _, _, rfl, rfl, _, rfl, iteD (by omega) ⟨_, rfl, _, _, rfl, rfl, _, rfl, iteD (by omega) ⟨_, rfl, _, _, rfl, rfl, _, rfl, _, congrArg (fun b => [V.bl b, rv]) (decide_eq_true (by omega)), ?_⟩⟩⟩⟩
    refine ⟨_, rfl, _, rfl, _, _, rfl, rfl, _, rfl, _, _, rfl, rfl, _, rfl, 2, rfl, na, _, rfl, hS, fun p hp => ⟨_, rfl, p, d, rv, rfl, sql (by rw [upd_same, cut_from (i := 2) _ 2 rfl]; rfl), hd1, hd2, fun p2 hp2 => fun oo dx hx hdx hne => ⟨oo, dx, t, [.int (a : Nat), .int (b : Nat), .ref p2], (by simp only [Int.add_sub_cancel] <;> rfl), rfl, upd_same, fun H2 hb hr2 => ⟨rfl, ?_⟩⟩⟩⟩
    have SM := ((Same.new hp).trans (Same.new hp2)).trans (made_same hx hdx hb)
    exact q oo H2 SM ⟨_, ROf.made hr2 rfl (by decide +kernel) (by decide +kernel), made_same hx hdx hb _ _ upd_same⟩
theorem ok_voice_rule (T : Top K mg base) : DOk P w K mg base "voice_rule" 4 ["text", "kind", "numbers", "voices", "row"] (sp_voice_rule K) := by
  have G_look_at := ok_look_at (P := P) (w := w) T
  have G_some_of := ok_some_of (P := P) (w := w) T
  have M_Move := mk_Move (P := P) (w := w) T
  have M_Begin := mk_Begin (P := P) (w := w) T
  have M_Close := mk_Close (P := P) (w := w) T
  have M_Times := mk_Times (P := P) (w := w) T
  have M_Back := mk_Back (P := P) (w := w) T
  have M_Held := mk_Held (P := P) (w := w) T
  obtain ⟨fd, F⟩ := T.D_voice_rule
  refine ⟨fd, F.ok sc_voice_rule (fun vs H Q E h => ?_) (fun cdv A outer s H vs Q E hr h => ?_), F.bindsN fun _ _ _ _ _ _ us hl => match us, hl with | [_, _, _, _, _], _ => rfl, F.kp, T.g_voice_rule⟩
  · obtain ⟨t, na, n, rv, R, rfl, _⟩ := h
    rfl
  · obtain ⟨t, na, n, rv, R, rfl, hC, hk, hS, q⟩ := h
-- slots: 0 text 1 kind 2 numbers 3 voices 4 row 5 voice 6 rest
-- needs: look_at mk_Move some_of mk_Begin mk_Close mk_Times mk_Back mk_Held
    refine ⟨_, PSs.nox (pss_cons (ps_expr (dcall G_look_at (hr.mono (by decide)) (by rfl) (pa_cons (pe_and (pe_cmpR op_gt (pe_callB call_len (by rfl) T.b_len PySem.boot_len (pa_cons (pv 2) pa_nil)) pe_int (nomark _)) (pe_one (pe_chain op_le op_le pe_int (pe_ix ix_list (pv 2) pe_int (fun _ _ => rfl)) (pv 3)))) (pa_cons (pv 4) pa_nil))))
      (pss_cons (ps_set (i := 5) sc_voice_rule.nd rfl (by first | exact Or.inl rfl | exact Or.inr rfl) (pe_op op_sub (pe_ix ix_list (pv 2) pe_int (fun _ _ => rfl)) pe_int))
      (pss_cons (ps_set (i := 6) sc_voice_rule.nd rfl (by first | exact Or.inl rfl | exact Or.inr rfl) (pe_slice sl_list (pv 2) (po_some pe_int) po_none))
      (pss_cons (ps_if (pt_cmpR op_eq (pv 1) pe_str (nomark _))
        (pss_one (ps_ret (kmake M_Move (hr.mono (by decide)) (by rfl) (pa_cons (pv 0) (pa_cons (pv 5) (pa_cons (dcall G_some_of (hr.mono (by decide)) (by rfl) (pa_cons (pv 6) (pa_cons (pv 4) pa_nil))) pa_nil))))))
        pss_nil)
      (pss_cons (ps_if (pt_cmpR op_eq (pv 1) pe_str (nomark _))
        (pss_one (ps_ret (kmake M_Begin (hr.mono (by decide)) (by rfl) (pa_cons (pv 0) (pa_cons (pv 5) (pa_cons (dcall G_some_of (hr.mono (by decide)) (by rfl) (pa_cons (pv 6) (pa_cons (pv 4) pa_nil))) pa_nil))))))
        pss_nil)
      (pss_cons (ps_if (pt_cmpR op_eq (pv 1) pe_str (nomark _))
        (pss_one (ps_ret (kmake M_Close (hr.mono (by decide)) (by rfl) (pa_cons (pv 0) (pa_cons (pv 5) (pa_cons (dcall G_some_of (hr.mono (by decide)) (by rfl) (pa_cons (pv 6) (pa_cons (pv 4) pa_nil))) pa_nil))))))
        pss_nil)
      (pss_cons (ps_if (pt_cmpR op_eq (pv 1) pe_str (nomark _))
        (pss_cons (ps_expr (dcall G_look_at (hr.mono (by decide)) (by rfl) (pa_cons (pe_and (pe_cmpR op_eq (pe_callB call_len (by rfl) T.b_len PySem.boot_len (pa_cons (pv 6) pa_nil)) pe_int (nomark _)) (pe_and (pe_cmpR op_ge (pe_ix ix_list (pv 6) pe_int (fun _ _ => rfl)) pe_int (nomark _)) (pe_one (pe_cmpR op_ge (pe_ix ix_list (pv 6) pe_int (fun _ _ => rfl)) pe_int (nomark _))))) (pa_cons (pv 4) pa_nil))))
        (pss_one (ps_ret (kmake M_Times (hr.mono (by decide)) (by rfl) (pa_cons (pv 0) (pa_cons (pv 5) (pa_cons (pe_ix ix_list (pv 6) pe_int (fun _ _ => rfl)) (pa_cons (pe_ix ix_list (pv 6) pe_int (fun _ _ => rfl)) (pa_cons (pe_ix ix_list (pv 6) pe_int (fun _ _ => rfl)) pa_nil)))))))))
        pss_nil)
      (pss_cons (ps_expr (dcall G_look_at (hr.mono (by decide)) (by rfl) (pa_cons (pe_cmpR op_eq (pe_callB call_len (by rfl) T.b_len PySem.boot_len (pa_cons (pv 6) pa_nil)) pe_int (nomark _)) (pa_cons (pv 4) pa_nil))))
      (pss_cons (ps_if (pt_cmpR op_eq (pv 1) pe_str (nomark _))
        (pss_cons (ps_expr (dcall G_look_at (hr.mono (by decide)) (by rfl) (pa_cons (pe_cmpR op_ge (pe_ix ix_list (pv 6) pe_int (fun _ _ => rfl)) pe_int (nomark _)) (pa_cons (pv 4) pa_nil))))
        (pss_one (ps_ret (kmake M_Back (hr.mono (by decide)) (by rfl) (pa_cons (pv 0) (pa_cons (pv 5) (pa_cons (pe_ix ix_list (pv 6) pe_int (fun _ _ => rfl)) pa_nil)))))))
        pss_nil)
      (pss_cons (ps_expr (dcall G_look_at (hr.mono (by decide)) (by rfl) (pa_cons (pe_and (pe_cmpR op_eq (pv 1) pe_str (nomark _)) (pe_one (pe_cmpR op_ge (pe_ix ix_list (pv 6) pe_int (fun _ _ => rfl)) pe_int (nomark _)))) (pa_cons (pv 4) pa_nil))))
      (pss_one (ps_ret (kmake M_Held (hr.mono (by decide)) (by rfl) (pa_cons (pv 0) (pa_cons (pv 5) (pa_cons (pe_ix ix_list (pv 6) pe_int (fun _ _ => rfl)) pa_nil)))))))))))))))), ?_⟩
    match R, hC, hk, hS, q with
    | .move v d, _, hk, hS, q =>
      have ln : ((RK.nums (.move v d)).map V.int).length = d.length + 1 := by simp [RK.nums]
      obtain ⟨hv, hd⟩ := id hk
      obtain ⟨hd1, hd2, _⟩ := id hd
      refine ⟨_, rfl, _, _, rfl, .inl ⟨_, hS, rfl⟩, _, _, rfl, rfl, _, rfl, iteD (by rw [ln]; omega) ⟨_, rfl, na, _, _, _, rfl, rfl, hS, atI_nat (j := 0) rfl, _, _, rfl, rfl, _, rfl, iteD (by omega) ⟨_, rfl, _, _, rfl, rfl, _, rfl, _, congrArg (fun b => [V.bl b, rv]) (decide_eq_true (by omega)), _, rfl, na, _, _, _, rfl, rfl, hS, atI_nat (j := 0) rfl, _, _, rfl, rfl, _, rfl, 1, rfl, na, _, rfl, hS, fun p hp => ?_⟩⟩⟩
      have hp1 : upd H p (.lst (cutV ((RK.nums (.move v d)).map V.int) (some 1) none)) p = some (.lst (d.map V.int)) := by
        rw [upd_same, cut_from (i := 1) _ 1 rfl]
        rfl
      refine ⟨_, rfl, rfl, _, rfl, iteD rfl ⟨_, rfl, _, rfl, _, rfl, _, rfl, p, d, rv, rfl, sql hp1, hd1, hd2, fun p2 hp2 => fun oo dx hx hdx hne => ⟨oo, dx, t, [.int (v : Nat), .ref p2], (by simp only [Int.add_sub_cancel] <;> rfl), rfl, upd_same, fun H2 hb hr2 => ⟨rfl, ?_⟩⟩⟩⟩
      have SM := ((Same.new hp).trans (Same.new hp2)).trans (made_same hx hdx hb)
      exact q oo H2 SM ⟨_, ROf.made hr2 rfl (by decide +kernel) (by decide +kernel), made_same hx hdx hb _ _ upd_same⟩
    | .beg v d, _, hk, hS, q =>
      have ln : ((RK.nums (.beg v d)).map V.int).length = d.length + 1 := by simp [RK.nums]
      obtain ⟨hv, hd⟩ := id hk
      obtain ⟨hd1, hd2, _⟩ := id hd
      refine ⟨_, rfl, _, _, rfl, .inl ⟨_, hS, rfl⟩, _, _, rfl, rfl, _, rfl, iteD (by rw [ln]; omega) ⟨_, rfl, na, _, _, _, rfl, rfl, hS, atI_nat (j := 0) rfl, _, _, rfl, rfl, _, rfl, iteD (by omega) ⟨_, rfl, _, _, rfl, rfl, _, rfl, _, congrArg (fun b => [V.bl b, rv]) (decide_eq_true (by omega)), _, rfl, na, _, _, _, rfl, rfl, hS, atI_nat (j := 0) rfl, _, _, rfl, rfl, _, rfl, 1, rfl, na, _, rfl, hS, fun p hp => ?_⟩⟩⟩
      have hp1 : upd H p (.lst (cutV ((RK.nums (.beg v d)).map V.int) (some 1) none)) p = some (.lst (d.map V.int)) := by
        rw [upd_same, cut_from (i := 1) _ 1 rfl]
        rfl
      refine ⟨_, rfl, rfl, _, rfl, iteND (kne (a := "begin") (by decide +kernel)) ⟨_, rfl, rfl, _, rfl, iteD rfl ⟨_, rfl, _, rfl, _, rfl, _, rfl, p, d, rv, rfl, sql hp1, hd1, hd2, fun p2 hp2 => fun oo dx hx hdx hne => ⟨oo, dx, t, [.int (v : Nat), .ref p2], (by simp only [Int.add_sub_cancel] <;> rfl), rfl, upd_same, fun H2 hb hr2 => ⟨rfl, ?_⟩⟩⟩⟩⟩
      have SM := ((Same.new hp).trans (Same.new hp2)).trans (made_same hx hdx hb)
      exact q oo H2 SM ⟨_, ROf.made hr2 rfl (by decide +kernel) (by decide +kernel), made_same hx hdx hb _ _ upd_same⟩
    | .clo v d, _, hk, hS, q =>
      have ln : ((RK.nums (.clo v d)).map V.int).length = d.length + 1 := by simp [RK.nums]
      obtain ⟨hv, hd⟩ := id hk
      obtain ⟨hd1, hd2, _⟩ := id hd
      refine ⟨_, rfl, _, _, rfl, .inl ⟨_, hS, rfl⟩, _, _, rfl, rfl, _, rfl, iteD (by rw [ln]; omega) ⟨_, rfl, na, _, _, _, rfl, rfl, hS, atI_nat (j := 0) rfl, _, _, rfl, rfl, _, rfl, iteD (by omega) ⟨_, rfl, _, _, rfl, rfl, _, rfl, _, congrArg (fun b => [V.bl b, rv]) (decide_eq_true (by omega)), _, rfl, na, _, _, _, rfl, rfl, hS, atI_nat (j := 0) rfl, _, _, rfl, rfl, _, rfl, 1, rfl, na, _, rfl, hS, fun p hp => ?_⟩⟩⟩
      have hp1 : upd H p (.lst (cutV ((RK.nums (.clo v d)).map V.int) (some 1) none)) p = some (.lst (d.map V.int)) := by
        rw [upd_same, cut_from (i := 1) _ 1 rfl]
        rfl
      refine ⟨_, rfl, rfl, _, rfl, iteND (kne (a := "close") (by decide +kernel)) ⟨_, rfl, rfl, _, rfl, iteND (kne (a := "close") (by decide +kernel)) ⟨_, rfl, rfl, _, rfl, iteD rfl ⟨_, rfl, _, rfl, _, rfl, _, rfl, p, d, rv, rfl, sql hp1, hd1, hd2, fun p2 hp2 => fun oo dx hx hdx hne => ⟨oo, dx, t, [.int (v : Nat), .ref p2], (by simp only [Int.add_sub_cancel] <;> rfl), rfl, upd_same, fun H2 hb hr2 => ⟨rfl, ?_⟩⟩⟩⟩⟩⟩
      have SM := ((Same.new hp).trans (Same.new hp2)).trans (made_same hx hdx hb)
      exact q oo H2 SM ⟨_, ROf.made hr2 rfl (by decide +kernel) (by decide +kernel), made_same hx hdx hb _ _ upd_same⟩
    | .times v x lo hi, _, hk, hS, q =>
      have ln : ((RK.nums (.times v x lo hi)).map V.int).length = 4 := by simp [RK.nums]
      obtain ⟨hv, _, hlo, _, hhi, _⟩ := id hk
      refine ⟨_, rfl, _, _, rfl, .inl ⟨_, hS, rfl⟩, _, _, rfl, rfl, _, rfl, iteD (by rw [ln]; omega) ⟨_, rfl, na, _, _, _, rfl, rfl, hS, atI_nat (j := 0) rfl, _, _, rfl, rfl, _, rfl, iteD (by omega) ⟨_, rfl, _, _, rfl, rfl, _, rfl, _, congrArg (fun b => [V.bl b, rv]) (decide_eq_true (by omega)), _, rfl, na, _, _, _, rfl, rfl, hS, atI_nat (j := 0) rfl, _, _, rfl, rfl, _, rfl, 1, rfl, na, _, rfl, hS, fun p hp => ?_⟩⟩⟩
      have hp1 : upd H p (.lst (cutV ((RK.nums (.times v x lo hi)).map V.int) (some 1) none)) p = some (.lst ([.int x, .int lo, .int hi])) := by
        rw [upd_same, cut_from (i := 1) _ 1 rfl]
        rfl
      refine ⟨_, rfl, rfl, _, rfl, iteND (kne (a := "times") (by decide +kernel)) ⟨_, rfl, rfl, _, rfl, iteND (kne (a := "times") (by decide +kernel)) ⟨_, rfl, rfl, _, rfl, iteND (kne (a := "times") (by decide +kernel)) ⟨_, rfl, rfl, _, rfl, iteD rfl ⟨_, rfl, _, _, rfl, .inl ⟨_, sql hp1, rfl⟩, rfl, _, rfl, iteD rfl ⟨_, rfl, p, _, _, _, rfl, rfl, sql hp1, atI_nat (j := 1) rfl, _, _, rfl, rfl, _, rfl, iteD (by omega) ⟨_, rfl, p, _, _, _, rfl, rfl, sql hp1, atI_nat (j := 2) rfl, _, _, rfl, rfl, _, rfl, _, congrArg (fun b => [V.bl b, rv]) (decide_eq_true (by omega)), _, rfl, _, rfl, _, rfl, p, _, _, _, rfl, rfl, sql hp1, atI_nat (j := 0) rfl, _, rfl, p, _, _, _, rfl, rfl, sql hp1, atI_nat (j := 1) rfl, _, rfl, p, _, _, _, rfl, rfl, sql hp1, atI_nat (j := 2) rfl, fun oo dx hx hdx hne => ⟨oo, dx, t, [.int (v : Nat), .int x, .int lo, .int hi], (by simp only [Int.add_sub_cancel] <;> rfl), rfl, upd_same, fun H2 hb hr2 => ⟨rfl, ?_⟩⟩⟩⟩⟩⟩⟩⟩⟩
      have SM := (Same.new hp).trans (made_same hx hdx hb)
      exact q oo H2 SM (ROf.made hr2 rfl (by decide +kernel) (by decide +kernel))
    | .back v d, _, hk, hS, q =>
      have ln : ((RK.nums (.back v d)).map V.int).length = 2 := by simp [RK.nums]
      obtain ⟨hv, hlo, _⟩ := id hk
      refine ⟨_, rfl, _, _, rfl, .inl ⟨_, hS, rfl⟩, _, _, rfl, rfl, _, rfl, iteD (by rw [ln]; omega) ⟨_, rfl, na, _, _, _, rfl, rfl, hS, atI_nat (j := 0) rfl, _, _, rfl, rfl, _, rfl, iteD (by omega) ⟨_, rfl, _, _, rfl, rfl, _, rfl, _, congrArg (fun b => [V.bl b, rv]) (decide_eq_true (by omega)), _, rfl, na, _, _, _, rfl, rfl, hS, atI_nat (j := 0) rfl, _, _, rfl, rfl, _, rfl, 1, rfl, na, _, rfl, hS, fun p hp => ?_⟩⟩⟩
      have hp1 : upd H p (.lst (cutV ((RK.nums (.back v d)).map V.int) (some 1) none)) p = some (.lst ([.int d])) := by
        rw [upd_same, cut_from (i := 1) _ 1 rfl]
        rfl
      refine ⟨_, rfl, rfl, _, rfl, iteND (kne (a := "back") (by decide +kernel)) ⟨_, rfl, rfl, _, rfl, iteND (kne (a := "back") (by decide +kernel)) ⟨_, rfl, rfl, _, rfl, iteND (kne (a := "back") (by decide +kernel)) ⟨_, rfl, rfl, _, rfl, iteND (kne (a := "back") (by decide +kernel)) ⟨_, rfl, _, _, rfl, .inl ⟨_, sql hp1, rfl⟩, rfl, _, rfl, _, congrArg (fun b => [V.bl b, rv]) (decide_eq_true (rfl)), _, rfl, rfl, _, rfl, iteD rfl ⟨_, rfl, p, _, _, _, rfl, rfl, sql hp1, atI_nat (j := 0) rfl, _, _, rfl, rfl, _, rfl, _, congrArg (fun b => [V.bl b, rv]) (decide_eq_true (by omega)), _, rfl, _, rfl, _, rfl, p, _, _, _, rfl, rfl, sql hp1, atI_nat (j := 0) rfl, fun oo dx hx hdx hne => ⟨oo, dx, t, [.int (v : Nat), .int d], (by simp only [Int.add_sub_cancel] <;> rfl), rfl, upd_same, fun H2 hb hr2 => ⟨rfl, ?_⟩⟩⟩⟩⟩⟩⟩⟩
      have SM := (Same.new hp).trans (made_same hx hdx hb)
      exact q oo H2 SM (ROf.made hr2 rfl (by decide +kernel) (by decide +kernel))
    | .held v k, _, hk, hS, q =>
      have ln : ((RK.nums (.held v k)).map V.int).length = 2 := by simp [RK.nums]
      obtain ⟨hv, hlo, _⟩ := id hk
      refine ⟨_, rfl, _, _, rfl, .inl ⟨_, hS, rfl⟩, _, _, rfl, rfl, _, rfl, iteD (by rw [ln]; omega) ⟨_, rfl, na, _, _, _, rfl, rfl, hS, atI_nat (j := 0) rfl, _, _, rfl, rfl, _, rfl, iteD (by omega) ⟨_, rfl, _, _, rfl, rfl, _, rfl, _, congrArg (fun b => [V.bl b, rv]) (decide_eq_true (by omega)), _, rfl, na, _, _, _, rfl, rfl, hS, atI_nat (j := 0) rfl, _, _, rfl, rfl, _, rfl, 1, rfl, na, _, rfl, hS, fun p hp => ?_⟩⟩⟩
      have hp1 : upd H p (.lst (cutV ((RK.nums (.held v k)).map V.int) (some 1) none)) p = some (.lst ([.int k])) := by
        rw [upd_same, cut_from (i := 1) _ 1 rfl]
        rfl
      refine ⟨_, rfl, rfl, _, rfl, iteND (kne (a := "held") (by decide +kernel)) ⟨_, rfl, rfl, _, rfl, iteND (kne (a := "held") (by decide +kernel)) ⟨_, rfl, rfl, _, rfl, iteND (kne (a := "held") (by decide +kernel)) ⟨_, rfl, rfl, _, rfl, iteND (kne (a := "held") (by decide +kernel)) ⟨_, rfl, _, _, rfl, .inl ⟨_, sql hp1, rfl⟩, rfl, _, rfl, _, congrArg (fun b => [V.bl b, rv]) (decide_eq_true (rfl)), _, rfl, rfl, _, rfl, iteND (kne (a := "held") (by decide +kernel)) ⟨_, rfl, rfl, _, rfl, iteD rfl ⟨_, rfl, p, _, _, _, rfl, rfl, sql hp1, atI_nat (j := 0) rfl, _, _, rfl, rfl, _, rfl, _, congrArg (fun b => [V.bl b, rv]) (decide_eq_true (by omega)), _, rfl, _, rfl, _, rfl, p, _, _, _, rfl, rfl, sql hp1, atI_nat (j := 0) rfl, fun oo dx hx hdx hne => ⟨oo, dx, t, [.int (v : Nat), .int k], (by simp only [Int.add_sub_cancel] <;> rfl), rfl, upd_same, fun H2 hb hr2 => ⟨rfl, ?_⟩⟩⟩⟩⟩⟩⟩⟩⟩
      have SM := (Same.new hp).trans (made_same hx hdx hb)
      exact q oo H2 SM (ROf.made hr2 rfl (by decide +kernel) (by decide +kernel))
end
end Fv
set_option Elab.async false
set_option linter.all false
set_option maxRecDepth 100000
set_option maxHeartbeats 4000000
/-! Rules read from their texts. -/
namespace Fv
open PySem PySem.Spec PyProof.Rows L2 _root_.TL
theorem sV_eq (ns : List Int) : (ns.map nS).map V.str = sV ns := by
  unfold sV
  rw [List.map_map]
  rfl
theorem fig_small {k : Int} (h0 : 0 ≤ k) (h : k ≤ 1000) : Fig k := by
  have h1 : k.natAbs ≤ 1000 := by omega
  exact Nat.lt_of_le_of_lt h1 (by decide)
theorem some12_mem {d : List Int} (h : Some12 d) {x : Int} (hx : x ∈ d) : Fig x := h.2.2 x hx
theorem nums_fig {n : Nat} (hn : n ≤ 4) : ∀ {R : RK}, R.ok n → ∀ x ∈ R.nums, Fig x
  | .span a b d, h, x, hx => by
    obtain ⟨h1, h2, hd⟩ := h
    dsimp only [RK.nums] at hx
    rcases List.mem_cons.mp hx with rfl | hx
    · exact fig_small (by omega) (by omega)
    rcases List.mem_cons.mp hx with rfl | hx
    · exact fig_small (by omega) (by omega)
    exact some12_mem hd hx
  | .clock a b m d, h, x, hx => by
    obtain ⟨h1, h2, h3, h4, hd⟩ := h
    dsimp only [RK.nums] at hx
    rcases List.mem_cons.mp hx with rfl | hx
    · exact fig_small (by omega) (by omega)
    rcases List.mem_cons.mp hx with rfl | hx
    · exact fig_small (by omega) (by omega)
    rcases List.mem_cons.mp hx with rfl | hx
    · exact h4
    exact some12_mem hd hx
  | .alike a b d, h, x, hx => by
    obtain ⟨h1, h2, hd⟩ := h
    dsimp only [RK.nums] at hx
    rcases List.mem_cons.mp hx with rfl | hx
    · exact fig_small (by omega) (by omega)
    rcases List.mem_cons.mp hx with rfl | hx
    · exact fig_small (by omega) (by omega)
    exact some12_mem hd hx
  | .move v d, h, x, hx => by
    obtain ⟨h1, hd⟩ := h
    dsimp only [RK.nums] at hx
    rcases List.mem_cons.mp hx with rfl | hx
    · exact fig_small (by omega) (by omega)
    exact some12_mem hd hx
  | .back v d, h, x, hx => by
    obtain ⟨h1, h2, h3⟩ := h
    dsimp only [RK.nums] at hx
    rcases List.mem_cons.mp hx with rfl | hx
    · exact fig_small (by omega) (by omega)
    rcases List.mem_cons.mp hx with rfl | hx
    · exact h3
    cases hx
  | .held v k, h, x, hx => by
    obtain ⟨h1, h2, h3⟩ := h
    dsimp only [RK.nums] at hx
    rcases List.mem_cons.mp hx with rfl | hx
    · exact fig_small (by omega) (by omega)
    rcases List.mem_cons.mp hx with rfl | hx
    · exact h3
    cases hx
  | .times v y lo hi, h, x, hx => by
    obtain ⟨h1, h2, h3, h4, h5, h6⟩ := h
    dsimp only [RK.nums] at hx
    rcases List.mem_cons.mp hx with rfl | hx
    · exact fig_small (by omega) (by omega)
    rcases List.mem_cons.mp hx with rfl | hx
    · exact h2
    rcases List.mem_cons.mp hx with rfl | hx
    · exact h4
    rcases List.mem_cons.mp hx with rfl | hx
    · exact h6
    cases hx
  | .beg v d, h, x, hx => by
    obtain ⟨h1, hd⟩ := h
    dsimp only [RK.nums] at hx
    rcases List.mem_cons.mp hx with rfl | hx
    · exact fig_small (by omega) (by omega)
    exact some12_mem hd hx
  | .clo v d, h, x, hx => by
    obtain ⟨h1, hd⟩ := h
    dsimp only [RK.nums] at hx
    rcases List.mem_cons.mp hx with rfl | hx
    · exact fig_small (by omega) (by omega)
    exact some12_mem hd hx
  | .ev m r i, h, x, hx => by
    obtain ⟨h1, h2, h3, h4, _⟩ := h
    dsimp only [RK.nums] at hx
    rcases List.mem_cons.mp hx with rfl | hx
    · exact h2
    rcases List.mem_cons.mp hx with rfl | hx
    · exact (Nat.lt_of_le_of_lt (by omega : x.natAbs ≤ m.natAbs) h2)
    cases hx
theorem nums_len {n : Nat} : ∀ {R : RK}, R.ok n → R.nums.length ≤ 15
  | .span .., h => by
    have := h.2.2.2.1
    simp only [RK.nums, List.length_cons]
    omega
  | .clock .., h => by
    have := h.2.2.2.2.2.1
    simp only [RK.nums, List.length_cons]
    omega
  | .alike .., h => by
    have := h.2.2.2.1
    simp only [RK.nums, List.length_cons]
    omega
  | .move .., h => by
    have := h.2.2.1
    simp only [RK.nums, List.length_cons]
    omega
  | .beg .., h => by
    have := h.2.2.1
    simp only [RK.nums, List.length_cons]
    omega
  | .clo .., h => by
    have := h.2.2.1
    simp only [RK.nums, List.length_cons]
    omega
  | .back .., _ => by simp [RK.nums]
  | .held .., _ => by simp [RK.nums]
  | .times .., _ => by simp [RK.nums]
  | .ev .., _ => by simp [RK.nums]
/-- the inner rule of an every -/
def InnerOk (i : RK) : Prop := (∃ a b d, i = .span a b d) ∨ ∃ a b k d, i = .clock a b k d
theorem inner_isC {i : RK} (h : InnerOk i) : i.isC := by
  rcases h with ⟨a, b, d, rfl⟩ | ⟨a, b, k, d, rfl⟩ <;> exact True.intro
theorem inner_rest {i : RK} (h : InnerOk i) : i.rest = i.nums.map nS := by
  rcases h with ⟨a, b, d, rfl⟩ | ⟨a, b, k, d, rfl⟩ <;> rfl
theorem inner_kind {i : RK} (h : InnerOk i) : inV (V.str i.kind) [V.str ("span" : Str), V.str ("clock" : Str)] = true := by
  rcases h with ⟨a, b, d, rfl⟩ | ⟨a, b, k, d, rfl⟩
  · show inV (V.str ("span" : Str)) [V.str ("span" : Str), V.str ("clock" : Str)] = true
    decide +kernel
  · show inV (V.str ("clock" : Str)) [V.str ("span" : Str), V.str ("clock" : Str)] = true
    decide +kernel
/-- a word: short, without a blank or a line end -/
def Word (z : Str) : Prop := z.length ≤ 50 ∧ 32 ∉ tl z ∧ 10 ∉ tl z
theorem word_num {k : Int} (h : Fig k) : Word (nS k) := ⟨by have := nS_len2 h; omega, nS_free (by omega), nS_free (by omega)⟩
theorem word_kind : ∀ R : RK, Word R.kind := by
  intro R
  have e : (∀ z ∈ (["span", "clock", "alike", "move", "back", "held", "times", "begin", "close", "every"] : List Str), z.length ≤ 50 ∧ (32 ∈ tl z) = False ∧ (10 ∈ tl z) = False) := by
    intro z hz
    have h2 : ((["span", "clock", "alike", "move", "back", "held", "times", "begin", "close", "every"] : List Str).all fun z => decide (z.length ≤ 50) && !decide (32 ∈ tl z) && !decide (10 ∈ tl z)) = true := by decide +kernel
    have h3 := List.all_eq_true.mp h2 z hz
    rw [Bool.and_eq_true, Bool.and_eq_true] at h3
    refine ⟨of_decide_eq_true h3.1.1, eq_false ?_, eq_false ?_⟩
    · have := h3.1.2
      intro q
      rw [decide_eq_true q] at this
      cases this
    · have := h3.2
      intro q
      rw [decide_eq_true q] at this
      cases this
  have e2 : R.kind ∈ (["span", "clock", "alike", "move", "back", "held", "times", "begin", "close", "every"] : List Str) := by
    cases R <;> simp [RK.kind]
  obtain ⟨a, b, c⟩ := e _ e2
  exact ⟨a, fun q => by rw [b] at q; exact q, fun q => by rw [c] at q; exact q⟩
theorem words_nums {n : Nat} (hn : n ≤ 4) {R : RK} (h : R.ok n) : ∀ z ∈ R.nums.map nS, Word z := fun z hz => by
  obtain ⟨k, hk, rfl⟩ := List.mem_map.mp hz
  exact word_num (nums_fig hn h k hk)
theorem rest_ok {n : Nat} (hn : n ≤ 4) : ∀ {R : RK}, R.ok n → (∀ z ∈ R.rest, Word z) ∧ R.rest.length ≤ 18
  | .span .., h => ⟨words_nums hn h, by have := nums_len h; show (List.map nS _).length ≤ 18; rw [List.length_map]; omega⟩
  | .clock .., h => ⟨words_nums hn h, by have := nums_len h; show (List.map nS _).length ≤ 18; rw [List.length_map]; omega⟩
  | .alike .., h => ⟨words_nums hn h, by have := nums_len h; show (List.map nS _).length ≤ 18; rw [List.length_map]; omega⟩
  | .move .., h => ⟨words_nums hn h, by have := nums_len h; show (List.map nS _).length ≤ 18; rw [List.length_map]; omega⟩
  | .back .., h => ⟨words_nums hn h, by have := nums_len h; show (List.map nS _).length ≤ 18; rw [List.length_map]; omega⟩
  | .held .., h => ⟨words_nums hn h, by have := nums_len h; show (List.map nS _).length ≤ 18; rw [List.length_map]; omega⟩
  | .times .., h => ⟨words_nums hn h, by have := nums_len h; show (List.map nS _).length ≤ 18; rw [List.length_map]; omega⟩
  | .beg .., h => ⟨words_nums hn h, by have := nums_len h; show (List.map nS _).length ≤ 18; rw [List.length_map]; omega⟩
  | .clo .., h => ⟨words_nums hn h, by have := nums_len h; show (List.map nS _).length ≤ 18; rw [List.length_map]; omega⟩
  | .ev m r i, h => by
    obtain ⟨h1, h2, h3, h4, h5, h6⟩ := h
    have e : RK.rest (.ev m r i) = nS m :: nS r :: i.kind :: i.nums.map nS := by
      show nS m :: nS r :: i.kind :: i.rest = _
      rw [inner_rest h5]
    have hl := nums_len h6
    refine ⟨fun z hz => ?_, ?_⟩
    · rw [e] at hz
      rcases List.mem_cons.mp hz with rfl | hz
      · exact word_num h2
      rcases List.mem_cons.mp hz with rfl | hz
      · exact word_num (Nat.lt_of_le_of_lt (by omega : r.natAbs ≤ m.natAbs) h2)
      rcases List.mem_cons.mp hz with rfl | hz
      · exact word_kind i
      exact words_nums hn h6 z hz
    · rw [e]
      simp only [List.length_cons, List.length_map]
      omega
theorem words_ok {n : Nat} (hn : n ≤ 4) {R : RK} (h : R.ok n) : (∀ z ∈ R.words, Word z) ∧ R.words.length ≤ 19 := by
  obtain ⟨h1, h2⟩ := rest_ok hn h
  refine ⟨fun z hz => ?_, ?_⟩
  · rcases List.mem_cons.mp hz with rfl | hz
    · exact word_kind R
    · exact h1 z hz
  · show R.rest.length + 1 ≤ 19
    omega
theorem sum_words {k : Nat} : ∀ {ws : List Str}, (∀ z ∈ ws, z.length ≤ k) → (ws.map (·.length)).sum ≤ k * ws.length
  | [], _ => Nat.zero_le _
  | z :: ws, h => by
    have h1 := h z (List.mem_cons_self ..)
    have h2 := sum_words (ws := ws) fun y hy => h y (List.mem_cons_of_mem _ hy)
    rw [List.map_cons, List.sum_cons, List.length_cons, Nat.mul_add]
    omega
theorem joinL_len (S : List Nat) : ∀ ps : List (List Nat), (joinL S ps).length ≤ (ps.map (·.length)).sum + ps.length * S.length
  | [] => Nat.zero_le _
  | [p] => by
    show p.length ≤ p.length + 0 + 1 * S.length
    omega
  | p :: q :: r => by
    have ih := joinL_len S (q :: r)
    show (p ++ (S ++ joinL S (q :: r))).length ≤ _
    rw [List.length_append, List.length_append, List.map_cons, List.sum_cons, List.length_cons (a := p), Nat.add_mul]
    omega
theorem join_len {k : Nat} {y : Str} {ws : List Str} (h : ∀ z ∈ ws, z.length ≤ k) : (Txt.join y ws).length ≤ (k + y.length) * ws.length := by
  rw [len_tl, join_eq, tl_join]
  have h1 := joinL_len (tl y) (ws.map tl)
  have h2 := sum_words h
  have e : (ws.map tl).map (·.length) = ws.map (·.length) := by
    rw [List.map_map]
    exact List.map_congr_left fun z _ => (len_tl z).symm
  rw [e, List.length_map, ← len_tl] at h1
  rw [Nat.add_mul, Nat.mul_comm y.length]
  omega
theorem blank_len : (" " : Str).length = 1 := by decide +kernel
theorem join_size {n : Nat} (hn : n ≤ 4) {R : RK} (h : R.ok n) : (R.words.map (·.length)).sum + R.words.length * (" " : Str).length ≤ 16777216 := by
  obtain ⟨h1, h2⟩ := words_ok hn h
  have h3 := sum_words fun z hz => (h1 z hz).1
  rw [blank_len]
  omega
theorem rowS_len {n : Nat} (hn : n ≤ 4) {R : RK} (h : R.ok n) : (rowS R).length ≤ 1000 := by
  obtain ⟨h1, h2⟩ := words_ok hn h
  have h3 := join_len (y := " ") fun z hz => (h1 z hz).1
  rw [blank_len] at h3
  unfold rowS
  omega
theorem rowS_split {n : Nat} (hn : n ≤ 4) {R : RK} (h : R.ok n) : Txt.split (rowS R) " " = R.words := by
  obtain ⟨h1, h2⟩ := words_ok hn h
  exact split_join (s := 32) (S := []) (by decide +kernel) (by decide +kernel) (by unfold RK.words; simp) fun z hz => (h1 z hz).2.1
section
variable {P : Program} {w : World} {K : PySem.W.Frag} {mg : Str → Option Value} {base : Heap}
def sp_every_rule (K : PySem.W.Frag) : Sp := fun vs H Q _ => ∃ (t : Str) (wa : Addr) (n : Nat) (rv : V) (m r : Int) (i : RK), vs = [.str t, .ref wa, .int n, rv] ∧ n ≤ 4 ∧ RK.ok n (.ev m r i) ∧ SqL K H wa ((RK.words (.ev m r i)).map V.str) ∧ Made K H (.ev m r i) Q
theorem ok_every_rule (T : Top K mg base) : DOk P w K mg base "every_rule" 5 ["text", "words", "voices", "row"] (sp_every_rule K) := by
  have G_look_at := ok_look_at (P := P) (w := w) T
  have G_numbers_of := ok_numbers_of (P := P) (w := w) T
  have G_column_rule := ok_column_rule (P := P) (w := w) T
  have M_Every := mk_Every (P := P) (w := w) T
  obtain ⟨fd, F⟩ := T.D_every_rule
  refine ⟨fd, F.ok sc_every_rule (fun vs H Q E h => ?_) (fun cdv A outer s H vs Q E hr h => ?_), F.bindsN fun _ _ _ _ _ _ us hl => match us, hl with | [_, _, _, _], _ => rfl, F.kp, T.g_every_rule⟩
  · obtain ⟨t, wa, n, rv, m, r, i, rfl, _⟩ := h
    rfl
  · obtain ⟨t, wa, n, rv, m, r, i, rfl, hn, hk, hS, q⟩ := h
    obtain ⟨h1, h2, h3, h4, h5, h6⟩ := id hk
    have hwl := (words_ok hn hk).2
    have hl6 := nums_len h6
    have ew : (RK.words (.ev m r i)).map V.str = V.str "every" :: V.str (nS m) :: V.str (nS r) :: V.str i.kind :: sV i.nums := by
      rw [← sV_eq, ← inner_rest h5]
      rfl
    have ewi : V.str i.kind :: sV i.nums = i.words.map V.str := by
      rw [← sV_eq, ← inner_rest h5]
      rfl
    rw [ew] at hS
    have ln : (V.str "every" :: V.str (nS m) :: V.str (nS r) :: V.str i.kind :: sV i.nums).length = i.nums.length + 4 := by simp [sV]
-- slots: 0 text 1 words 2 voices 3 row 4 inner 5 beat 6 at
-- needs: look_at numbers_of column_rule mk_Every
    refine ⟨_, PSs.nox (pss_cons (ps_expr (dcall G_look_at (hr.mono (by decide)) (by rfl) (pa_cons (pe_and (pe_cmpR op_gt (pe_callB call_len (by rfl) T.b_len PySem.boot_len (pa_cons (pv 1) pa_nil)) pe_int (nomark _)) (pe_one (pe_cmpR op_in_seq (pe_ix ix_list (pv 1) pe_int (fun _ _ => rfl)) (pe_tup (pa_cons pe_str (pa_cons pe_str pa_nil))) (by rfl)))) (pa_cons (pv 3) pa_nil))))
      (pss_cons (ps_asg (dcall G_numbers_of (hr.mono (by decide)) (by rfl) (pa_cons (pe_slice sl_list (pv 1) (po_some pe_int) (po_some pe_int)) (pa_cons (pv 3) pa_nil))) (pg_unl rfl (pgs_cons (pg_name (i := 5) sc_every_rule.nd rfl (by first | exact Or.inl rfl | exact Or.inr rfl)) (pgs_cons (pg_name (i := 6) sc_every_rule.nd rfl (by first | exact Or.inl rfl | exact Or.inr rfl)) pgs_nil))))
      (pss_cons (ps_expr (dcall G_look_at (hr.mono (by decide)) (by rfl) (pa_cons (pe_and (pe_cmpR op_ge (pv 5) pe_int (nomark _)) (pe_one (pe_chain op_le op_lt pe_int (pv 6) (pv 5)))) (pa_cons (pv 3) pa_nil))))
      (pss_cons (ps_set (i := 4) sc_every_rule.nd rfl (by first | exact Or.inl rfl | exact Or.inr rfl) (dcall G_column_rule (hr.mono (by decide)) (by rfl) (pa_cons (pe_join pe_str (pe_slice sl_list (pv 1) (po_some pe_int) po_none)) (pa_cons (pe_ix ix_list (pv 1) pe_int (fun _ _ => rfl)) (pa_cons (dcall G_numbers_of (hr.mono (by decide)) (by rfl) (pa_cons (pe_slice sl_list (pv 1) (po_some pe_int) po_none) (pa_cons (pv 3) pa_nil))) (pa_cons (pv 2) (pa_cons (pv 3) pa_nil)))))))
      (pss_one (ps_ret (kmake M_Every (hr.mono (by decide)) (by rfl) (pa_cons (pv 0) (pa_cons (pv 5) (pa_cons (pv 6) (pa_cons (pv 4) pa_nil))))))))))), ?_⟩
    refine ⟨_, rfl, _, _, rfl, .inl ⟨_, hS, rfl⟩, _, _, rfl, rfl, _, rfl, iteD (by rw [ln]; omega) ⟨_, rfl, wa, _, _, _, rfl, rfl, hS, atI_nat (j := 3) rfl, by show 2 ≤ sizeLine; decide, fun tp ntp => ?_⟩⟩
    have S0 : Same H (upd H tp (.tup [V.str "span", V.str "clock"])) := Same.new ntp
    refine ⟨tp, _, rfl, .inr (sqt upd_same), rfl, rfl, _, rfl, _, congrArg (fun b => [V.bl b, rv]) (inner_kind h5), ?_⟩
    refine ⟨_, rfl, 1, rfl, 3, rfl, wa, _, rfl, S0.seq hS, fun p np => ?_⟩
    have S1 := S0.trans (Same.new (o := .lst (cutV (V.str "every" :: V.str (nS m) :: V.str (nS r) :: V.str i.kind :: sV i.nums) (some 1) (some 3))) np)
    refine ⟨_, rfl, p, [m, r], rv, rfl, sql (by rw [upd_same, cut_two (i := 1) (i2 := 3) _ 1 3 rfl rfl (by rw [ln]; omega) (by decide)]; rfl), ?_, by show 2 ≤ 1000; decide, fun p2 H2 S2 n2 e2 => ?_⟩
    · intro k hk2
      rcases List.mem_cons.mp hk2 with rfl | hk2
      · exact h2
      · rw [List.mem_singleton.mp hk2]
        exact Nat.lt_of_le_of_lt (by omega : r.natAbs ≤ m.natAbs) h2
    have S3 := S1.trans S2
    refine ⟨p2, _, rfl, sql e2, rfl, _, _, rfl, _, _, rfl, rfl, ?_⟩
    refine ⟨_, rfl, _, _, rfl, rfl, _, rfl, iteD (by omega) ⟨_, rfl, _, _, rfl, rfl, _, rfl, iteD (by omega) ⟨_, rfl, _, _, rfl, rfl, _, rfl, _, congrArg (fun b => [V.bl b, rv]) (decide_eq_true (by omega)), ?_⟩⟩⟩
    refine ⟨⟨_, rfl⟩, _, rfl, 3, rfl, wa, _, rfl, S3.seq hS, fun p3 n3 => ?_⟩
    have S4 := S3.trans (Same.new (o := .lst (cutV (V.str "every" :: V.str (nS m) :: V.str (nS r) :: V.str i.kind :: sV i.nums) (some 3) none)) n3)
    refine ⟨_, p3, i.words, rfl, rfl, .inl (sql (by rw [upd_same, cut_from (i := 3) _ 3 rfl, ← ewi]; rfl)), join_size hn h6, ?_⟩
    refine ⟨_, rfl, wa, _, _, _, rfl, rfl, S4.seq hS, atI_nat (j := 3) rfl, _, rfl, 4, rfl, wa, _, rfl, S4.seq hS, fun p4 n4 => ?_⟩
    have S5 := S4.trans (Same.new (o := .lst (cutV (V.str "every" :: V.str (nS m) :: V.str (nS r) :: V.str i.kind :: sV i.nums) (some 4) none)) n4)
    refine ⟨_, rfl, p4, i.nums, rv, rfl, sql (by rw [upd_same, cut_from (i := 4) _ 4 rfl]; rfl), nums_fig hn h6, by omega, fun p5 H5 S6 n5 e5 => ?_⟩
    have S7 := S5.trans S6
    refine ⟨_, rfl, _, rfl, _, p5, n, rv, i, rfl, inner_isC h5, h6, sql e5, fun p6 H6 S8 hi => ?_⟩
    have S9 := S7.trans S8
    refine ⟨_, rfl, _, rfl, _, rfl, _, rfl, fun oo dx hx hdx hne => ⟨oo, dx, t, [.int m, .int r, .ref p6], rfl, rfl, upd_same, fun H7 hb hr2 => ⟨rfl, ?_⟩⟩⟩
    have SM := made_same hx hdx hb
    exact q oo H7 (S9.trans SM) ⟨p6, ROf.made hr2 rfl (by decide +kernel) (by decide +kernel), RO.mono SM hi⟩
def sp_read_rule (K : PySem.W.Frag) : Sp := fun vs H Q _ => ∃ (n : Nat) (rv : V) (R : RK), vs = [.str (rowS R), .int n, rv] ∧ n ≤ 4 ∧ R.ok n ∧ Made K H R Q
theorem ok_read_rule (T : Top K mg base) : DOk P w K mg base "read_rule" 6 ["text", "voices", "row"] (sp_read_rule K) := by
  have G_numbers_of := ok_numbers_of (P := P) (w := w) T
  have G_column_rule := ok_column_rule (P := P) (w := w) T
  have G_alike_rule := ok_alike_rule (P := P) (w := w) T
  have G_voice_rule := ok_voice_rule (P := P) (w := w) T
  have G_every_rule := ok_every_rule (P := P) (w := w) T
  obtain ⟨fd, F⟩ := T.D_read_rule
  obtain ⟨ds, hds, hb⟩ := F.binds1 (ps := ["text", "voices", "row"]) 3 1 (by intro z; cases z) rfl fun _ _ _ _ _ _ _ us its hl hi => match us, hl, its, hi with | [_, _, _], _, [_], _ => ⟨_, rfl, rfl⟩
  cases hds
  refine ⟨fd, F.ok sc_read_rule (fun vs H Q E h => ?_) (fun cdv A outer s H vs Q E hr h => ?_), hb, F.kp, T.g_read_rule⟩
  · obtain ⟨n, rv, R, rfl, _⟩ := h
    rfl
  · obtain ⟨n, rv, R, rfl, hn, hk, q⟩ := h
-- slots: 0 text 1 voices 2 row 3 words 4 kind 5 numbers
-- needs: every_rule numbers_of column_rule alike_rule voice_rule
    refine ⟨_, PSs.nox (pss_cons (ps_set (i := 3) sc_read_rule.nd rfl (by first | exact Or.inl rfl | exact Or.inr rfl) (pe_split (pv 0) pe_str))
      (pss_cons (ps_set (i := 4) sc_read_rule.nd rfl (by first | exact Or.inl rfl | exact Or.inr rfl) (pe_ix ix_list (pv 3) pe_int (fun _ _ => rfl)))
      (pss_cons (ps_if (pt_cmpR op_eq (pv 4) pe_str (nomark _))
        (pss_one (ps_ret (dcall G_every_rule (hr.mono (by decide)) (by rfl) (pa_cons (pv 0) (pa_cons (pv 3) (pa_cons (pv 1) (pa_cons (pv 2) pa_nil)))))))
        pss_nil)
      (pss_cons (ps_set (i := 5) sc_read_rule.nd rfl (by first | exact Or.inl rfl | exact Or.inr rfl) (dcall G_numbers_of (hr.mono (by decide)) (by rfl) (pa_cons (pe_slice sl_list (pv 3) (po_some pe_int) po_none) (pa_cons (pv 2) pa_nil))))
      (pss_cons (ps_if (PW.pt (pw_or (pt_cmpR op_eq (pv 4) pe_str (nomark _)) (pw_or1 (pt_cmpR op_eq (pv 4) pe_str (nomark _)))))
        (pss_one (ps_ret (dcall G_column_rule (hr.mono (by decide)) (by rfl) (pa_cons (pv 0) (pa_cons (pv 4) (pa_cons (pv 5) (pa_cons (pv 1) (pa_cons (pv 2) pa_nil))))))))
        pss_nil)
      (pss_cons (ps_if (pt_cmpR op_eq (pv 4) pe_str (nomark _))
        (pss_one (ps_ret (dcall G_alike_rule (hr.mono (by decide)) (by rfl) (pa_cons (pv 0) (pa_cons (pv 5) (pa_cons (pv 1) (pa_cons (pv 2) pa_nil)))))))
        pss_nil)
      (pss_one (ps_ret (dcall G_voice_rule (hr.mono (by decide)) (by rfl) (pa_cons (pv 0) (pa_cons (pv 4) (pa_cons (pv 5) (pa_cons (pv 1) (pa_cons (pv 2) pa_nil)))))))))))))), ?_⟩
    have hsl := rowS_len hn hk
    refine ⟨_, rfl, ⟨_, rfl⟩, _, _, rfl, rfl, by decide +kernel, Nat.le_trans (by omega : (rowS R).length + 2 ≤ 100000) (by decide), fun p np => ?_⟩
    rw [rowS_split hn hk]
    have S0 : Same H (upd H p (.lst (R.words.map V.str))) := Same.new np
    refine ⟨_, rfl, p, _, _, _, rfl, rfl, sql upd_same, atI_nat (j := 0) rfl, ?_⟩
    match R, hk, q, S0 with
    | .ev m r i, hk, q, S0 =>
      exact ⟨_, rfl, rfl, _, rfl, iteD rfl ⟨_, rfl, _, rfl, _, rfl, _, rfl, _, p, n, rv, m, r, i, rfl, hn, hk, sql upd_same, fun p6 H6 S8 hi => q p6 H6 (S0.trans S8) hi⟩⟩
    | .span a b d, hk, q, S0 =>
      have hl := nums_len hk
      refine ⟨_, rfl, rfl, _, rfl, iteND (kne (a := "span") (by decide +kernel)) ⟨_, rfl, 1, rfl, p, _, rfl, sql upd_same, fun p1 np1 => ⟨_, rfl, p1, RK.nums (.span a b d), rv, rfl, sql (by rw [upd_same, cut_from (i := 1) _ 1 rfl, ← sV_eq]; rfl), nums_fig hn hk, by omega, fun p2 H2 S2 n2 e2 => ?_⟩⟩⟩
      have S3 := (S0.trans (Same.new np1)).trans S2
      exact ⟨_, rfl, rfl, _, rfl, iteD rfl (iteT ⟨_, rfl, _, rfl, _, rfl, _, rfl, _, rfl, _, p2, n, rv, .span a b d, rfl, True.intro, hk, sql e2, fun p6 H6 S8 hi => q p6 H6 (S3.trans S8) hi⟩)⟩
    | .clock a b m d, hk, q, S0 =>
      have hl := nums_len hk
      refine ⟨_, rfl, rfl, _, rfl, iteND (kne (a := "clock") (by decide +kernel)) ⟨_, rfl, 1, rfl, p, _, rfl, sql upd_same, fun p1 np1 => ⟨_, rfl, p1, RK.nums (.clock a b m d), rv, rfl, sql (by rw [upd_same, cut_from (i := 1) _ 1 rfl, ← sV_eq]; rfl), nums_fig hn hk, by omega, fun p2 H2 S2 n2 e2 => ?_⟩⟩⟩
      have S3 := (S0.trans (Same.new np1)).trans S2
      exact ⟨_, rfl, rfl, _, rfl, iteND (kne (a := "clock") (by decide +kernel)) ⟨_, rfl, rfl, _, rfl, iteD rfl ⟨_, rfl, _, rfl, _, rfl, _, rfl, _, rfl, _, p2, n, rv, .clock a b m d, rfl, True.intro, hk, sql e2, fun p6 H6 S8 hi => q p6 H6 (S3.trans S8) hi⟩⟩⟩
    | .alike a b d, hk, q, S0 =>
      have hl := nums_len hk
      refine ⟨_, rfl, rfl, _, rfl, iteND (kne (a := "alike") (by decide +kernel)) ⟨_, rfl, 1, rfl, p, _, rfl, sql upd_same, fun p1 np1 => ⟨_, rfl, p1, RK.nums (.alike a b d), rv, rfl, sql (by rw [upd_same, cut_from (i := 1) _ 1 rfl, ← sV_eq]; rfl), nums_fig hn hk, by omega, fun p2 H2 S2 n2 e2 => ?_⟩⟩⟩
      have S3 := (S0.trans (Same.new np1)).trans S2
      exact ⟨_, rfl, rfl, _, rfl, iteND (kne (a := "alike") (by decide +kernel)) ⟨_, rfl, rfl, _, rfl, iteND (kne (a := "alike") (by decide +kernel)) ⟨_, rfl, rfl, _, rfl, iteD rfl ⟨_, rfl, _, rfl, _, rfl, _, rfl, _, p2, n, rv, a, b, d, rfl, hk, sql e2, fun p6 H6 S8 hi => q p6 H6 (S3.trans S8) hi⟩⟩⟩⟩
    | .move v d, hk, q, S0 =>
      have hl := nums_len hk
      refine ⟨_, rfl, rfl, _, rfl, iteND (kne (a := "move") (by decide +kernel)) ⟨_, rfl, 1, rfl, p, _, rfl, sql upd_same, fun p1 np1 => ⟨_, rfl, p1, RK.nums (.move v d), rv, rfl, sql (by rw [upd_same, cut_from (i := 1) _ 1 rfl, ← sV_eq]; rfl), nums_fig hn hk, by omega, fun p2 H2 S2 n2 e2 => ?_⟩⟩⟩
      have S3 := (S0.trans (Same.new np1)).trans S2
      exact ⟨_, rfl, rfl, _, rfl, iteND (kne (a := "move") (by decide +kernel)) ⟨_, rfl, rfl, _, rfl, iteND (kne (a := "move") (by decide +kernel)) ⟨_, rfl, rfl, _, rfl, iteND (kne (a := "move") (by decide +kernel)) ⟨_, rfl, _, rfl, _, rfl, _, rfl, _, rfl, _, p2, n, rv, .move v d, rfl, True.intro, hk, sql e2, fun p6 H6 S8 hi => q p6 H6 (S3.trans S8) hi⟩⟩⟩⟩
    | .back v d, hk, q, S0 =>
      have hl := nums_len hk
      refine ⟨_, rfl, rfl, _, rfl, iteND (kne (a := "back") (by decide +kernel)) ⟨_, rfl, 1, rfl, p, _, rfl, sql upd_same, fun p1 np1 => ⟨_, rfl, p1, RK.nums (.back v d), rv, rfl, sql (by rw [upd_same, cut_from (i := 1) _ 1 rfl, ← sV_eq]; rfl), nums_fig hn hk, by omega, fun p2 H2 S2 n2 e2 => ?_⟩⟩⟩
      have S3 := (S0.trans (Same.new np1)).trans S2
      exact ⟨_, rfl, rfl, _, rfl, iteND (kne (a := "back") (by decide +kernel)) ⟨_, rfl, rfl, _, rfl, iteND (kne (a := "back") (by decide +kernel)) ⟨_, rfl, rfl, _, rfl, iteND (kne (a := "back") (by decide +kernel)) ⟨_, rfl, _, rfl, _, rfl, _, rfl, _, rfl, _, p2, n, rv, .back v d, rfl, True.intro, hk, sql e2, fun p6 H6 S8 hi => q p6 H6 (S3.trans S8) hi⟩⟩⟩⟩
    | .held v k, hk, q, S0 =>
      have hl := nums_len hk
      refine ⟨_, rfl, rfl, _, rfl, iteND (kne (a := "held") (by decide +kernel)) ⟨_, rfl, 1, rfl, p, _, rfl, sql upd_same, fun p1 np1 => ⟨_, rfl, p1, RK.nums (.held v k), rv, rfl, sql (by rw [upd_same, cut_from (i := 1) _ 1 rfl, ← sV_eq]; rfl), nums_fig hn hk, by omega, fun p2 H2 S2 n2 e2 => ?_⟩⟩⟩
      have S3 := (S0.trans (Same.new np1)).trans S2
      exact ⟨_, rfl, rfl, _, rfl, iteND (kne (a := "held") (by decide +kernel)) ⟨_, rfl, rfl, _, rfl, iteND (kne (a := "held") (by decide +kernel)) ⟨_, rfl, rfl, _, rfl, iteND (kne (a := "held") (by decide +kernel)) ⟨_, rfl, _, rfl, _, rfl, _, rfl, _, rfl, _, p2, n, rv, .held v k, rfl, True.intro, hk, sql e2, fun p6 H6 S8 hi => q p6 H6 (S3.trans S8) hi⟩⟩⟩⟩
    | .times v y lo hi, hk, q, S0 =>
      have hl := nums_len hk
      refine ⟨_, rfl, rfl, _, rfl, iteND (kne (a := "times") (by decide +kernel)) ⟨_, rfl, 1, rfl, p, _, rfl, sql upd_same, fun p1 np1 => ⟨_, rfl, p1, RK.nums (.times v y lo hi), rv, rfl, sql (by rw [upd_same, cut_from (i := 1) _ 1 rfl, ← sV_eq]; rfl), nums_fig hn hk, by omega, fun p2 H2 S2 n2 e2 => ?_⟩⟩⟩
      have S3 := (S0.trans (Same.new np1)).trans S2
      exact ⟨_, rfl, rfl, _, rfl, iteND (kne (a := "times") (by decide +kernel)) ⟨_, rfl, rfl, _, rfl, iteND (kne (a := "times") (by decide +kernel)) ⟨_, rfl, rfl, _, rfl, iteND (kne (a := "times") (by decide +kernel)) ⟨_, rfl, _, rfl, _, rfl, _, rfl, _, rfl, _, p2, n, rv, .times v y lo hi, rfl, True.intro, hk, sql e2, fun p6 H6 S8 hi => q p6 H6 (S3.trans S8) hi⟩⟩⟩⟩
    | .beg v d, hk, q, S0 =>
      have hl := nums_len hk
      refine ⟨_, rfl, rfl, _, rfl, iteND (kne (a := "begin") (by decide +kernel)) ⟨_, rfl, 1, rfl, p, _, rfl, sql upd_same, fun p1 np1 => ⟨_, rfl, p1, RK.nums (.beg v d), rv, rfl, sql (by rw [upd_same, cut_from (i := 1) _ 1 rfl, ← sV_eq]; rfl), nums_fig hn hk, by omega, fun p2 H2 S2 n2 e2 => ?_⟩⟩⟩
      have S3 := (S0.trans (Same.new np1)).trans S2
      exact ⟨_, rfl, rfl, _, rfl, iteND (kne (a := "begin") (by decide +kernel)) ⟨_, rfl, rfl, _, rfl, iteND (kne (a := "begin") (by decide +kernel)) ⟨_, rfl, rfl, _, rfl, iteND (kne (a := "begin") (by decide +kernel)) ⟨_, rfl, _, rfl, _, rfl, _, rfl, _, rfl, _, p2, n, rv, .beg v d, rfl, True.intro, hk, sql e2, fun p6 H6 S8 hi => q p6 H6 (S3.trans S8) hi⟩⟩⟩⟩
    | .clo v d, hk, q, S0 =>
      have hl := nums_len hk
      refine ⟨_, rfl, rfl, _, rfl, iteND (kne (a := "close") (by decide +kernel)) ⟨_, rfl, 1, rfl, p, _, rfl, sql upd_same, fun p1 np1 => ⟨_, rfl, p1, RK.nums (.clo v d), rv, rfl, sql (by rw [upd_same, cut_from (i := 1) _ 1 rfl, ← sV_eq]; rfl), nums_fig hn hk, by omega, fun p2 H2 S2 n2 e2 => ?_⟩⟩⟩
      have S3 := (S0.trans (Same.new np1)).trans S2
      exact ⟨_, rfl, rfl, _, rfl, iteND (kne (a := "close") (by decide +kernel)) ⟨_, rfl, rfl, _, rfl, iteND (kne (a := "close") (by decide +kernel)) ⟨_, rfl, rfl, _, rfl, iteND (kne (a := "close") (by decide +kernel)) ⟨_, rfl, _, rfl, _, rfl, _, rfl, _, rfl, _, p2, n, rv, .clo v d, rfl, True.intro, hk, sql e2, fun p6 H6 S8 hi => q p6 H6 (S3.trans S8) hi⟩⟩⟩⟩
end
end Fv
set_option Elab.async false
set_option linter.all false
set_option maxRecDepth 100000
set_option maxHeartbeats 4000000
/-! Reading a score. -/
namespace Fv
open PySem PySem.Spec PyProof.Rows L2 _root_.TL
/-! ### products -/
def prodI (l : List Int) : Int := l.foldl (· * ·) 1
theorem prod_from : ∀ (l : List Int) (a : Int), l.foldl (· * ·) a = a * prodI l
  | [], a => by
    show a = a * 1
    rw [Int.mul_one]
  | x :: l, a => by
    unfold prodI
    rw [List.foldl_cons, List.foldl_cons, prod_from l (a * x), prod_from l (1 * x), Int.one_mul, Int.mul_assoc]
theorem prod_append (a b : List Int) : prodI (a ++ b) = prodI a * prodI b := by
  unfold prodI
  rw [List.foldl_append, prod_from b]
  rfl
theorem prod_pos {l : List Int} (h : ∀ x ∈ l, 1 ≤ x) : 1 ≤ prodI l := by
  induction l with
  | nil => exact Int.le_refl _
  | cons x l ih =>
    have h1 := ih fun y hy => h y (List.mem_cons_of_mem _ hy)
    have h2 := h x (List.mem_cons_self ..)
    have e : prodI (x :: l) = x * prodI l := by
      show l.foldl (· * ·) (1 * x) = _
      rw [prod_from, Int.one_mul]
    rw [e]
    have h3 := Int.mul_le_mul h2 h1 (by omega) (by omega)
    omega
theorem prod_take {l : List Int} (h : ∀ x ∈ l, 1 ≤ x) (i : Nat) : 1 ≤ prodI (l.take i) ∧ prodI (l.take i) ≤ prodI l := by
  have h1 : 1 ≤ prodI (l.take i) := prod_pos fun x hx => h x (List.mem_of_mem_take hx)
  have h2 : 1 ≤ prodI (l.drop i) := prod_pos fun x hx => h x (List.mem_of_mem_drop hx)
  refine ⟨h1, ?_⟩
  have e : prodI l = prodI (l.take i) * prodI (l.drop i) := by rw [← prod_append, List.take_append_drop]
  rw [e]
  have h3 := Int.mul_le_mul_of_nonneg_left h2 (by omega : 0 ≤ prodI (l.take i))
  omega
theorem prod_snoc {l : List Int} {i : Nat} {x : Int} (h : l[i]? = some x) : prodI (l.take (i + 1)) = prodI (l.take i) * x := by
  rw [take_more h, prod_append]
  show _ = prodI (l.take i) * x
  have e : prodI [x] = x := by
    show (1 : Int) * x = x
    exact Int.one_mul x
  rw [e]
def wid (r : Int × Int) : Int := r.2 - r.1 + 1
def facs (rs : Rng) (Rs : List RK) : List Int := rs.map wid ++ Rs.map RK.size
/-! ### a score -/
abbrev RObjs (K : PySem.W.Frag) (H : Hp) : List V → List RK → Prop := Paired fun v R => ∃ a, v = .ref a ∧ RO K H R a
theorem RObjs.mono {K : PySem.W.Frag} {H H' : Hp} {vs : List V} {Rs : List RK} (s : Same H H') (h : RObjs K H vs Rs) : RObjs K H' vs Rs := by
  induction h with
  | nil => exact .nil
  | cons r t ih =>
    obtain ⟨a, e, q⟩ := r
    exact .cons ⟨a, e, q.mono s⟩ ih
theorem RObjs.len {K : PySem.W.Frag} {H : Hp} {vs : List V} {Rs : List RK} (h : RObjs K H vs Rs) : vs.length = Rs.length := Paired.length h
theorem RObjs.get : ∀ {K : PySem.W.Frag} {H : Hp} {vs : List V} {Rs : List RK} {i : Nat} {v : V}, RObjs K H vs Rs → vs[i]? = some v → ∃ a R, v = .ref a ∧ Rs[i]? = some R ∧ RO K H R a
  | _, _, _, _, _, _, .nil, e => by simp at e
  | _, _, _, _, 0, _, .cons ⟨a, e1, q⟩ _, e => by
    have e2 : _ = _ := Option.some.inj e
    subst e2
    exact ⟨a, _, e1, rfl, q⟩
  | _, _, _, _, i + 1, _, .cons _ t, e => by
    obtain ⟨a, R, e1, e2, q⟩ := RObjs.get (i := i) t (by simpa using e)
    exact ⟨a, R, e1, by simpa using e2, q⟩
/-- what rules lean on stands -/
structure FK (H H' : Hp) : Prop where
  ins : ∀ a C dx fs, H a = some (.ins C dx fs) → H' a = some (.ins C dx fs)
  lst : ∀ a x d, H a = some (.lst (V.int x :: d)) → H' a = some (.lst (V.int x :: d))
  tup : TK H H'
theorem FK.of {H H' : Hp} (s : Same H H') : FK H H' := ⟨fun _ _ _ _ e => s _ _ e, fun _ _ _ e => s _ _ e, s.tk⟩
theorem FK.trans {H H1 H2 : Hp} (a : FK H H1) (b : FK H1 H2) : FK H H2 := ⟨fun _ _ _ _ e => b.ins _ _ _ _ (a.ins _ _ _ _ e), fun _ _ _ e => b.lst _ _ _ (a.lst _ _ _ e), a.tup.trans b.tup⟩
/-- a list of refs may change -/
theorem FK.upd {H : Hp} {p : Addr} {vs : List V} {o : HO} (h : H p = some (.lst vs)) (hv : ∀ v ∈ vs, ∃ a, v = V.ref a) : FK H (upd H p o) :=
  ⟨fun a C dx fs e => by rw [upd_ne (ne_of e h (fun z => nomatch z))]; exact e, fun a x d e => by
    rw [upd_ne (ne_of e h (fun z => by
      injection z with z1
      obtain ⟨b, hb⟩ := hv (V.int x) (by rw [← z1]; exact List.mem_cons_self ..)
      cases hb))]
    exact e, TK.lst h⟩
theorem RO.fk {K : PySem.W.Frag} {H H' : Hp} {n : Nat} (s : FK H H') : ∀ {R : RK} {r : Addr}, R.ok n → RO K H R r → RO K H' R r := by
  have L : ∀ {q : Addr} {d : List Int}, Some12 d → H q = some (.lst (d.map V.int)) → H' q = some (.lst (d.map V.int)) := by
    intro q d hd e
    cases d with
    | nil => exact absurd hd.1 (by decide)
    | cons x d => exact s.lst _ _ _ e
  intro R
  induction R with
  | span a b d => exact fun hk ⟨q, h1, h2⟩ => ⟨q, h1.mono s.ins, L hk.2.2 h2⟩
  | clock a b m d => exact fun hk ⟨q, h1, h2⟩ => ⟨q, h1.mono s.ins, L hk.2.2.2.2 h2⟩
  | alike a b d => exact fun hk ⟨q, h1, h2⟩ => ⟨q, h1.mono s.ins, L hk.2.2 h2⟩
  | move v d => exact fun hk ⟨q, h1, h2⟩ => ⟨q, h1.mono s.ins, L hk.2 h2⟩
  | beg v d => exact fun hk ⟨q, h1, h2⟩ => ⟨q, h1.mono s.ins, L hk.2 h2⟩
  | clo v d => exact fun hk ⟨q, h1, h2⟩ => ⟨q, h1.mono s.ins, L hk.2 h2⟩
  | back v d => exact fun hk h => ROf.mono h s.ins
  | held v k => exact fun hk h => ROf.mono h s.ins
  | times v x lo hi => exact fun hk h => ROf.mono h s.ins
  | ev m r i ih => exact fun hk ⟨q, h1, h2⟩ => ⟨q, h1.mono s.ins, ih hk.2.2.2.2.2 h2⟩
theorem RObjs.fk {K : PySem.W.Frag} {H H' : Hp} {n : Nat} {vs : List V} {Rs : List RK} (s : FK H H') (hk : ∀ R ∈ Rs, R.ok n) (h : RObjs K H vs Rs) : RObjs K H' vs Rs := by
  induction h with
  | nil => exact .nil
  | cons r t ih =>
    obtain ⟨a, e, q⟩ := r
    exact .cons ⟨a, e, q.fk s (hk _ (List.mem_cons_self ..))⟩ (ih fun R hR => hk R (List.mem_cons_of_mem _ hR))
theorem RObjs.refs {K : PySem.W.Frag} {H : Hp} {vs : List V} {Rs : List RK} (h : RObjs K H vs Rs) : ∀ v ∈ vs, ∃ a, v = V.ref a := by
  induction h with
  | nil => exact fun v hv => nomatch hv
  | cons r t ih =>
    intro v hv
    rcases List.mem_cons.mp hv with e | hv
    · obtain ⟨a, e2, _⟩ := r
      exact ⟨a, e.trans e2⟩
    · exact ih v hv
theorem tups_refs {H : Hp} {vs : List V} {cs : List (List V)} (h : Tups H vs cs) : ∀ v ∈ vs, ∃ a, v = V.ref a := by
  induction h with
  | nil => exact fun v hv => nomatch hv
  | cons r t ih =>
    intro v hv
    rcases List.mem_cons.mp hv with e | hv
    · obtain ⟨a, e2, _⟩ := r
      exact ⟨a, e.trans e2⟩
    · exact ih v hv
/-- a score as it was read -/
structure ScoreR (K : PySem.W.Frag) (H : Hp) (s : Addr) (rs : Rng) (Rs : List RK) : Prop where
  ob : ∃ dx fs ra ua, H s = some (.ins (He.ga K "Score") dx fs) ∧ fs.lookup ("ranges" : Str) = some (.ref ra) ∧ fs.lookup ("rules" : Str) = some (.ref ua) ∧ TL K H ra (rV rs) ∧ ∃ vs, H ua = some (.lst vs) ∧ RObjs K H vs Rs
theorem ScoreR.mono {K : PySem.W.Frag} {H H' : Hp} {s : Addr} {rs : Rng} {Rs : List RK} (h : ScoreR K H s rs Rs) (sm : Same H H') : ScoreR K H' s rs Rs := by
  obtain ⟨dx, fs, ra, ua, e1, e2, e3, e4, vs, e5, e6⟩ := h.ob
  exact ⟨dx, fs, ra, ua, sm _ _ e1, e2, e3, e4.mono sm, vs, sm _ _ e5, e6.mono sm⟩
theorem ScoreR.sc {K : PySem.W.Frag} {H : Hp} {s : Addr} {rs : Rng} {Rs : List RK} (h : ScoreR K H s rs Rs) : ScR K H s rs := by
  obtain ⟨dx, fs, ra, ua, e1, e2, e3, e4, vs, e5, e6⟩ := h.ob
  exact ⟨dx, fs, ra, e1, e2, e4⟩
/-! ### the texts -/
def rngS (r : Int × Int) : Str := Txt.join " " ["voice", nS r.1, nS r.2]
theorem word_voice : Word "voice" := ⟨by decide +kernel, by decide +kernel, by decide +kernel⟩
theorem rng_words {r : Int × Int} (h1 : Fig r.1) (h2 : Fig r.2) : ∀ z ∈ (["voice", nS r.1, nS r.2] : List Str), Word z := by
  intro z hz
  rcases List.mem_cons.mp hz with rfl | hz
  · exact word_voice
  rcases List.mem_cons.mp hz with rfl | hz
  · exact word_num h1
  · rw [List.mem_singleton.mp hz]
    exact word_num h2
theorem rngS_split {r : Int × Int} (h1 : Fig r.1) (h2 : Fig r.2) : Txt.split (rngS r) " " = (["voice", nS r.1, nS r.2] : List Str) :=
  split_join (y := " ") (s := 32) (S := []) (by decide +kernel) (by decide +kernel) (by simp) fun z hz => (rng_words h1 h2 z hz).2.1
theorem rngS_len {r : Int × Int} (h1 : Fig r.1) (h2 : Fig r.2) : (rngS r).length ≤ 1000 := by
  have h3 := join_len (y := " ") fun z hz => (rng_words h1 h2 z hz).1
  rw [blank_len] at h3
  unfold rngS
  have e : (["voice", nS r.1, nS r.2] : List Str).length = 3 := rfl
  rw [e] at h3
  omega
theorem mem_joinL {c : Nat} {S : List Nat} : ∀ {ps : List (List Nat)}, c ∈ joinL S ps → c ∈ S ∨ ∃ p ∈ ps, c ∈ p
  | [], h => by cases h
  | [p], h => .inr ⟨p, List.mem_singleton.mpr rfl, h⟩
  | p :: q :: r, h => by
    have h' : c ∈ p ++ (S ++ joinL S (q :: r)) := h
    rcases List.mem_append.mp h' with h1 | h1
    · exact .inr ⟨p, List.mem_cons_self .., h1⟩
    rcases List.mem_append.mp h1 with h1 | h1
    · exact .inl h1
    rcases mem_joinL (ps := q :: r) h1 with h2 | ⟨x, hx, h2⟩
    · exact .inl h2
    · exact .inr ⟨x, List.mem_cons_of_mem _ hx, h2⟩
theorem join_free {ws : List Str} (h : ∀ z ∈ ws, Word z) : 10 ∉ tl (Txt.join " " ws) := by
  rw [join_eq, tl_join]
  intro hm
  rcases mem_joinL hm with h1 | ⟨p, hp, h1⟩
  · exact absurd h1 (by decide +kernel)
  · obtain ⟨z, hz, rfl⟩ := List.mem_map.mp hp
    exact (h z hz).2.2 h1
structure RngOk (rs : Rng) : Prop where
  fig : ∀ r ∈ rs, Fig r.1 ∧ Fig r.2 ∧ r.1 ≤ r.2
  pos : 1 ≤ rs.length
  few : rs.length ≤ 4
structure RulesOk (n : Nat) (Rs : List RK) : Prop where
  ok : ∀ R ∈ Rs, R.ok n
  few : Rs.length ≤ 12
def linesS (rs : Rng) (Rs : List RK) : List Str := rs.map rngS ++ Rs.map rowS
def scoreS (rs : Rng) (Rs : List RK) : Str := Txt.join "\n" (linesS rs Rs)
theorem lines_ok {rs : Rng} {Rs : List RK} (h1 : RngOk rs) (h2 : RulesOk rs.length Rs) : ∀ z ∈ linesS rs Rs, z.length ≤ 1000 ∧ 10 ∉ tl z := by
  intro z hz
  rcases List.mem_append.mp hz with hz | hz
  · obtain ⟨r, hr, rfl⟩ := List.mem_map.mp hz
    obtain ⟨a, b, _⟩ := h1.fig r hr
    exact ⟨rngS_len a b, join_free (rng_words a b)⟩
  · obtain ⟨R, hR, rfl⟩ := List.mem_map.mp hz
    exact ⟨rowS_len h1.few (h2.ok R hR), join_free (words_ok h1.few (h2.ok R hR)).1⟩
theorem nl_len : ("\n" : Str).length = 1 := by decide +kernel
theorem lines_len (rs : Rng) (Rs : List RK) : (linesS rs Rs).length = rs.length + Rs.length := by
  unfold linesS
  rw [List.length_append, List.length_map, List.length_map]
theorem scoreS_len {rs : Rng} {Rs : List RK} (h1 : RngOk rs) (h2 : RulesOk rs.length Rs) : (scoreS rs Rs).length ≤ 20000 := by
  have h3 := join_len (y := "\n") fun z hz => (lines_ok h1 h2 z hz).1
  rw [nl_len, lines_len] at h3
  have := h1.few
  have := h2.few
  unfold scoreS
  omega
theorem scoreS_split {rs : Rng} {Rs : List RK} (h1 : RngOk rs) (h2 : RulesOk rs.length Rs) : Txt.split (scoreS rs Rs) "\n" = linesS rs Rs :=
  split_join (s := 10) (S := []) (by decide +kernel) (by decide +kernel) (fun e => by
    have h3 := lines_len rs Rs
    rw [e, List.length_nil] at h3
    have := h1.pos
    omega) fun z hz => (lines_ok h1 h2 z hz).2
theorem lines_rng {rs : Rng} {Rs : List RK} {i : Nat} {r : Int × Int} (h : rs[i]? = some r) : (linesS rs Rs)[i]? = some (rngS r) := by
  unfold linesS
  rw [List.getElem?_append_left (by rw [List.length_map]; exact (List.getElem?_eq_some_iff.mp h).1), List.getElem?_map, h]
  rfl
theorem lines_rule {rs : Rng} {Rs : List RK} {i : Nat} {R : RK} (h : Rs[i]? = some R) : (linesS rs Rs)[rs.length + i]? = some (rowS R) := by
  unfold linesS
  rw [List.getElem?_append_right (by rw [List.length_map]; omega), List.length_map, Nat.add_sub_cancel_left, List.getElem?_map, h]
  rfl
theorem kind_voice : ∀ R : RK, ¬ V.str R.kind = V.str ("voice" : Str) := by
  intro R
  have h2 : ((["span", "clock", "alike", "move", "back", "held", "times", "begin", "close", "every"] : List Str).all fun z => !(z == ("voice" : Str))) = true := by decide +kernel
  have e2 : R.kind ∈ (["span", "clock", "alike", "move", "back", "held", "times", "begin", "close", "every"] : List Str) := by
    cases R <;> simp [RK.kind]
  refine kne ?_
  have h3 := List.all_eq_true.mp h2 _ e2
  cases q : (R.kind == ("voice" : Str)) with
  | false => rfl
  | true => rw [q] at h3; cases h3
section
variable {P : Program} {w : World} {K : PySem.W.Frag} {mg : Str → Option Value} {base : Heap}
def sp_read_range (K : PySem.W.Frag) : Sp := fun vs H Q _ => ∃ (r : Int × Int) (rv : V), vs = [.str (rngS r), rv] ∧ Fig r.1 ∧ Fig r.2 ∧ r.1 ≤ r.2 ∧ ∀ p H', Same H H' → H' p = some (.tup [.int r.1, .int r.2]) → Q (.ref p) H'
theorem ok_read_range (T : Top K mg base) : DOk P w K mg base "read_range" 2 ["text", "row"] (sp_read_range K) := by
  have G_is_number := ok_is_number (P := P) (w := w) T
  obtain ⟨fd, F⟩ := T.D_read_range
  refine ⟨fd, F.ok sc_read_range (fun vs H Q E h => ?_) (fun cdv A outer s H vs Q E hr h => ?_), F.bindsN fun _ _ _ _ _ _ us hl => match us, hl with | [_, _], _ => rfl, F.kp, T.g_read_range⟩
  · obtain ⟨r, rv, rfl, _⟩ := h
    rfl
  · obtain ⟨r, rv, rfl, h1, h2, h3, q⟩ := h
    have hsl := rngS_len h1 h2
    have hl1 := nS_len2 h1
    have hl2 := nS_len2 h2
-- slots: 0 text 1 row 2 words
-- needs: is_number
    refine ⟨_, PSs.nox (pss_cons (ps_set (i := 2) sc_read_range.nd rfl (by first | exact Or.inl rfl | exact Or.inr rfl) (pe_split (pv 0) pe_str))
      (pss_cons (ps_if (PW.pt (pw_or (pt_cmpR op_ne (pe_callB call_len (by rfl) T.b_len PySem.boot_len (pa_cons (pv 2) pa_nil)) pe_int (nomark _)) (pw_or (pt_not (pt_val (dcall G_is_number (hr.mono (by decide)) (by rfl) (pa_cons (pe_ix ix_list (pv 2) pe_int (fun _ _ => rfl)) pa_nil)))) (pw_or1 (pt_not (pt_val (dcall G_is_number (hr.mono (by decide)) (by rfl) (pa_cons (pe_ix ix_list (pv 2) pe_int (fun _ _ => rfl)) pa_nil))))))))
        (pss_one ps_never)
        pss_nil)
      (pss_cons (ps_if (pt_cmpR op_gt (pe_callTy call_int_str (by rfl) T.b_int (by decide +kernel) (pa_cons (pe_ix ix_list (pv 2) pe_int (fun _ _ => rfl)) pa_nil)) (pe_callTy call_int_str (by rfl) T.b_int (by decide +kernel) (pa_cons (pe_ix ix_list (pv 2) pe_int (fun _ _ => rfl)) pa_nil)) (nomark _))
        (pss_one ps_never)
        pss_nil)
      (pss_one (ps_ret (pe_tup (pa_cons (pe_callTy call_int_str (by rfl) T.b_int (by decide +kernel) (pa_cons (pe_ix ix_list (pv 2) pe_int (fun _ _ => rfl)) pa_nil)) (pa_cons (pe_callTy call_int_str (by rfl) T.b_int (by decide +kernel) (pa_cons (pe_ix ix_list (pv 2) pe_int (fun _ _ => rfl)) pa_nil)) pa_nil)))))))), ?_⟩
    refine ⟨_, rfl, ⟨_, rfl⟩, _, _, rfl, rfl, by decide +kernel, Nat.le_trans (by omega : (rngS r).length + 2 ≤ 100000) (by decide), fun p np => ?_⟩
    rw [rngS_split h1 h2]
    have hp : upd H p (.lst (List.map V.str ["voice", nS r.1, nS r.2])) p = some (.lst [V.str "voice", V.str (nS r.1), V.str (nS r.2)]) := upd_same
    refine ⟨_, rfl, _, _, rfl, .inl ⟨_, sql hp, rfl⟩, rfl, _, rfl, iteNS rfl ?_⟩
    refine ⟨_, rfl, p, _, _, _, rfl, rfl, sql hp, atI_nat (j := 1) rfl, r.1, rfl, h1, true, rfl, iteF ?_⟩
    refine ⟨_, rfl, p, _, _, _, rfl, rfl, sql hp, atI_nat (j := 2) rfl, r.2, rfl, h2, true, rfl, iteF ?_⟩
    refine ⟨_, rfl, p, _, _, _, rfl, rfl, sql hp, atI_nat (j := 1) rfl, nS r.1, r.1, rfl, nS_read h1, by omega, ?_⟩
    refine ⟨_, rfl, p, _, _, _, rfl, rfl, sql hp, atI_nat (j := 2) rfl, nS r.2, r.2, rfl, nS_read h2, by omega, ?_⟩
    refine ⟨_, _, rfl, rfl, _, rfl, iteND (by omega) ?_⟩
    refine ⟨_, rfl, p, _, _, _, rfl, rfl, sql hp, atI_nat (j := 1) rfl, nS r.1, r.1, rfl, nS_read h1, by omega, ?_⟩
    refine ⟨_, rfl, p, _, _, _, rfl, rfl, sql hp, atI_nat (j := 2) rfl, nS r.2, r.2, rfl, nS_read h2, by omega, ?_⟩
    exact ⟨by show 2 ≤ sizeLine; decide, fun p2 np2 => q p2 _ ((Same.new np).trans (Same.new np2)) upd_same⟩
def spScore (K : PySem.W.Frag) : Sp := fun vs H Q _ => ∃ (r dx a b : Addr) (xs ys : List V), vs = [.ref r, .ref a, .ref b] ∧ H r = some (.ins (He.ga K "Score") dx []) ∧ SqL K H a xs ∧ SqL K H b ys ∧
  ∀ H' pa pb, (∀ c o, c ≠ r → H c = some o → H' c = some o) → H' r = some (.ins (He.ga K "Score") dx (putF "rules" (.ref pb) (putF "ranges" (.ref pa) []))) → H' pa = some (.lst xs) → H' pb = some (.lst ys) → Q .non H'
theorem mk_Score (T : Top K mg base) : KOk P w K mg base "Score" 1 ["self", "ranges", "rules"] (spScore K) := by
  obtain ⟨fd, F⟩ := T.D_Score_init
  refine ⟨_, fd, F.ok sc_Score_init (fun vs H Q E h => ?_) (fun cdv A outer s H vs Q E hr h => ?_), F.bindsN fun _ _ _ _ _ _ us hl => match us, hl with | [_, _, _], _ => rfl, T.k_Score, T.g_Score⟩
  · obtain ⟨r, dx, a, b, xs, ys, rfl, _⟩ := h
    rfl
  · obtain ⟨r, dx, a, b, xs, ys, rfl, hr0, ha, hb, q⟩ := h
-- slots: 0 self 1 ranges 2 rules
-- needs: 
    refine ⟨_, PSs.nox (pss_cons (ps_fld (pv 0) (pe_callTy call_list_of (by rfl) T.b_list (by decide +kernel) (pa_cons (pv 1) pa_nil)) rfl)
      (pss_one (ps_fld (pv 0) (pe_callTy call_list_of (by rfl) T.b_list (by decide +kernel) (pa_cons (pv 2) pa_nil)) rfl))), ?_⟩
    refine ⟨_, rfl, a, xs, rfl, .inl ha, fun pa npa => ?_⟩
    have h1 : r ≠ pa := ne_of_none hr0 npa
    have S1 : Same H (upd H pa (.lst xs)) := Same.new npa
    refine ⟨_, rfl, r, _, dx, _, rfl, S1 _ _ hr0, T.c_Score, T.n_Score_ranges, by decide, ?_⟩
    have hb2 : SqL K (upd (upd H pa (.lst xs)) r (.ins (He.ga K "Score") dx (putF "ranges" (.ref pa) []))) b ys := by
      rcases S1.seq hb with h | h
      · rcases h with h | h
        · exact .inl (.inl (by rw [upd_ne (ne_of h (S1 _ _ hr0) (fun z => nomatch z))]; exact h))
        · obtain ⟨o, h⟩ := h
          exact .inl (.inr ⟨o, by rw [upd_ne (ne_of h (S1 _ _ hr0) (fun z => nomatch z))]; exact h⟩)
      · exact .inr h
    refine ⟨_, rfl, b, ys, rfl, .inl hb2, fun pb npb => ?_⟩
    have h2 : r ≠ pb := ne_of_none (upd_same) npb
    have h3 : pa ≠ pb := ne_of_none (by rw [upd_ne (Ne.symm h1)]; exact upd_same) npb
    refine ⟨_, rfl, r, _, dx, _, rfl, by rw [upd_ne h2]; exact upd_same, T.c_Score, T.n_Score_rules, Nat.lt_of_le_of_lt (flen (Nat.le_refl 0)) (by decide), ?_⟩
    refine q _ pa pb (fun c o hc e => ?_) upd_same ?_ ?_
    · have h4 : c ≠ pa := ne_of_none e npa
      have h5 : c ≠ pb := ne_of_none (by rw [upd_ne hc, upd_ne h4]; exact e) npb
      rw [upd_ne hc, upd_ne h5, upd_ne hc, upd_ne h4]
      exact e
    · rw [upd_ne (Ne.symm h1), upd_ne h3, upd_ne (Ne.symm h1)]
      exact upd_same
    · rw [upd_ne (Ne.symm h2)]
      exact upd_same
def sp_weight (K : PySem.W.Frag) : Sp := fun vs H Q _ => ∃ (s : Addr) (rs : Rng) (Rs : List RK), vs = [.ref s] ∧ ScoreR K H s rs Rs ∧ (∀ x ∈ facs rs Rs, 1 ≤ x) ∧ prodI (facs rs Rs) ≤ 100000 ∧ Q (.int (prodI (facs rs Rs))) H
theorem ok_weight (T : Top K mg base) : DOk P w K mg base "weight" 2 ["score"] (sp_weight K) := by
  have R_size := R_size (P := P) (w := w) T
  obtain ⟨fd, F⟩ := T.D_weight
  refine ⟨fd, F.ok sc_weight (fun vs H Q E h => ?_) (fun cdv A outer s H vs Q E hr h => ?_), F.bindsN fun _ _ _ _ _ _ us hl => match us, hl with | [_], _ => rfl, F.kp, T.g_weight⟩
  · obtain ⟨s, rs, Rs, rfl, _⟩ := h
    rfl
  · obtain ⟨sa, rs, Rs, rfl, S, hf, hw, q⟩ := h
    obtain ⟨dx, fs, ra, ua, e1, e2, e3, ⟨xs, hxs, txs⟩, vs, e5, e6⟩ := S.ob
    have lx : xs.length = rs.length := by rw [txs.len]; exact List.length_map ..
    have lf : (facs rs Rs).length = rs.length + Rs.length := by unfold facs; rw [List.length_append, List.length_map, List.length_map]
-- slots: 0 score 1 found 2 rule 3 low 4 high
-- needs: R_size
    refine ⟨_, PSs.nox (pss_cons (ps_set (i := 1) sc_weight.nd rfl (by first | exact Or.inl rfl | exact Or.inr rfl) pe_int)
      (pss_cons (ps_for PassesOwn.never rfl (pi_list (pe_fld (pv 0) rfl)) (pg_tup rfl (pgs_cons (pg_name (i := 3) sc_weight.nd rfl (by first | exact Or.inl rfl | exact Or.inr rfl)) (pgs_cons (pg_name (i := 4) sc_weight.nd rfl (by first | exact Or.inl rfl | exact Or.inr rfl)) pgs_nil)))
        (pss_one (ps_set (i := 1) sc_weight.nd rfl (by first | exact Or.inl rfl | exact Or.inr rfl) (pe_op op_mul (pv 1) (pe_op op_add (pe_op op_sub (pv 4) (pv 3)) pe_int)))))
      (pss_cons (ps_for PassesOwn.never rfl (pi_list (pe_fld (pv 0) rfl)) (pg_name (i := 2) sc_weight.nd rfl (by first | exact Or.inl rfl | exact Or.inr rfl))
        (pss_one (ps_set (i := 1) sc_weight.nd rfl (by first | exact Or.inl rfl | exact Or.inr rfl) (pe_op op_mul (pv 1) (rcall0 R_size (hr.mono (by decide)) (pv 2))))))
      (pss_one (ps_ret (pv 1)))))), ?_⟩
    refine ⟨_, rfl, sa, _, dx, fs, _, rfl, e1, T.c_Score, T.n_Score_ranges, e2, ra, rfl, ⟨_, hxs⟩, for_list (K := K) (a := ra) (xs := xs) (fun i σ H' => ∃ (x2 x3 x4 : Option V), σ = [some (.ref sa), some (.int (prodI ((facs rs Rs).take i))), x2, x3, x4] ∧ H' = H)
      ⟨_, _, _, rfl, rfl⟩ (fun i σ H' _ ⟨_, _, _, _, e⟩ => by rw [e]; exact hxs) ?_ ?_⟩
    · rintro i v σ H' hv ⟨x2, x3, x4, rfl, rfl⟩
      obtain ⟨rt, rc, rfl, hrc, hrt⟩ := txs.getV hv
      obtain ⟨⟨lo, hi⟩, hri, rfl⟩ : ∃ r, rs[i]? = some r ∧ rc = [V.int r.1, V.int r.2] := by
        unfold rV at hrc
        rw [List.getElem?_map] at hrc
        cases e : rs[i]? with
        | none => rw [e] at hrc; cases hrc
        | some r => rw [e] at hrc; exact ⟨r, rfl, (Option.some.inj hrc).symm⟩
      have gi : (facs rs Rs)[i]? = some (hi - lo + 1) := by
        unfold facs
        rw [List.getElem?_append_left (by rw [List.length_map]; exact (List.getElem?_eq_some_iff.mp hri).1), List.getElem?_map, hri]
        rfl
      have hp := prod_take hf i
      refine ⟨rt, _, rfl, sqt hrt, rfl, _, _, rfl, _, _, rfl, rfl, ?_⟩
      refine ⟨_, rfl, _, rfl, _, rfl, _, _, rfl, rfl, _, _, rfl, rfl, _, _, rfl, rfl, .inl ⟨by omega, by omega⟩, x2, some (.int lo), some (.int hi), ?_, rfl⟩
      rw [prod_snoc gi]
      rfl
    · rintro σ H' ⟨x2, x3, x4, rfl, rfl⟩
      rw [lx]
      refine ⟨_, rfl, sa, _, dx, fs, _, rfl, e1, T.c_Score, T.n_Score_rules, e3, ua, rfl, ⟨_, sql e5⟩, for_list (K := K) (a := ua) (xs := vs) (fun i σ H2 => ∃ (x2 x3 x4 : Option V), σ = [some (.ref sa), some (.int (prodI ((facs rs Rs).take (rs.length + i)))), x2, x3, x4] ∧ H2 = H')
        ⟨_, _, _, rfl, rfl⟩ (fun i σ H2 _ ⟨_, _, _, _, e⟩ => by rw [e]; exact sql e5) ?_ ?_⟩
      · rintro i v σ H2 hv ⟨x2, x3, x4, rfl, rfl⟩
        obtain ⟨r, R, rfl, hRi, hRO⟩ := e6.get hv
        obtain ⟨dx2, fs2, g1, g2⟩ := hRO.ins
        have gi : (facs rs Rs)[rs.length + i]? = some R.size := by
          unfold facs
          rw [List.getElem?_append_right (by rw [List.length_map]; omega), List.length_map, Nat.add_sub_cancel_left, List.getElem?_map, hRi]
          rfl
        have hp := prod_take hf (rs.length + i)
        refine ⟨_, rfl, _, rfl, R.cls, R.cls_mem, r, dx2, fs2, rfl, g1, g2 "size" (by decide +kernel), r, R, rfl, hRO, rfl, _, _, rfl, rfl, .inl ⟨by omega, by omega⟩, some (.ref r), x3, x4, ?_, rfl⟩
        rw [← Nat.add_assoc, prod_snoc gi]
        rfl
      · rintro σ H2 ⟨x2, x3, x4, rfl, rfl⟩
        rw [e6.len, ← lf, List.take_length]
        exact ⟨_, rfl, q⟩
def rngD (rs : Rng) : List PyData := rs.map fun r => PyData.tuple [.int r.1, .int r.2]
theorem dp_rng {H : Hp} : ∀ {xs : List V} {rs : Rng}, Tups H xs (rV rs) → DpAll K H xs (rngD rs)
  | _, [], .nil => .nil
  | _, r :: rs, .cons ⟨a, e, q⟩ t => by
    subst e
    exact .cons (.tup (sqt q) (.cons (.int _) (.cons (.int _) .nil))) (dp_rng (rs := rs) t)
theorem shaped_rng (rs : Rng) : SeqAt.shaped (.list (rngD rs)) = true := by
  have h : ∀ l : Rng, PyData.canLayAll0 (rngD l) = true ∧ PyData.depthAll (rngD l) ≤ 1 := by
    intro l
    induction l with
    | nil => exact ⟨rfl, by decide⟩
    | cons r l ih =>
      obtain ⟨h1, h2⟩ := ih
      refine ⟨?_, ?_⟩
      · show PyData.canLayAll0 (PyData.tuple [.int r.1, .int r.2] :: rngD l) = true
        simp [PyData.canLayAll0, PyData.canLay0, h1]
      · show PyData.depthAll (PyData.tuple [.int r.1, .int r.2] :: rngD l) ≤ 1
        simp [PyData.depthAll, PyData.depth]
        omega
  obtain ⟨h1, h2⟩ := h rs
  simp [SeqAt.shaped, PyData.canLay0, PyData.depth, h1]
  omega
theorem iteE {b : Bool} {A B : Prop} (h : b = false) (q : B) : if b = true then A else B := by
  rw [h]
  exact iteF q
theorem iteY {b : Bool} {A B : Prop} (h : b = true) (q : A) : if b = true then A else B := by
  rw [h]
  exact iteT q
theorem eqv_nil : (!PyData.eqv (.list []) (.list [])) = false := by simp [PyData.eqv, PyData.eqvAll]
theorem eqv_rng {rs : Rng} (h : 1 ≤ rs.length) : PyData.eqv (.list (rngD rs)) (.list []) = false := by
  cases rs with
  | nil => exact absurd h (by decide)
  | cons r rs => simp [PyData.eqv, PyData.eqvAll, rngD]
theorem made_same2 {H1 H' : Hp} {x dx : Addr} {o1 o2 : HO} (hx : H1 x = none) (hdx : H1 dx = none) (h : ∀ c o, c ≠ x → upd (upd H1 dx o1) x o2 c = some o → H' c = some o) : Same H1 H' := fun a u e => by
  have h1 : a ≠ x := ne_of_none e hx
  have h2 : a ≠ dx := ne_of_none e hdx
  exact h a u h1 (by rw [upd_ne h1, upd_ne h2]; exact e)
theorem facs_pos {rs : Rng} {Rs : List RK} (h1 : RngOk rs) (h2 : RulesOk rs.length Rs) : ∀ x ∈ facs rs Rs, 1 ≤ x := by
  intro x hx
  rcases List.mem_append.mp hx with hx | hx
  · obtain ⟨r, hr, rfl⟩ := List.mem_map.mp hx
    have := (h1.fig r hr).2.2
    unfold wid
    omega
  · obtain ⟨R, hR, rfl⟩ := List.mem_map.mp hx
    exact RK.size_pos (h2.ok R hR)
def sp_read (K : PySem.W.Frag) : Sp := fun vs H Q _ => ∃ (rs : Rng) (Rs : List RK), vs = [.str (scoreS rs Rs)] ∧ RngOk rs ∧ RulesOk rs.length Rs ∧ prodI (facs rs Rs) ≤ 400 ∧ ∀ p H', Same H H' → ScoreR K H' p rs Rs → Q (.ref p) H'
theorem ok_read (T : Top K mg base) : DOk P w K mg base "read" 7 ["text"] (sp_read K) := by
  have G_read_range := ok_read_range (P := P) (w := w) T
  have G_read_rule := ok_read_rule (P := P) (w := w) T
  have G_weight := ok_weight (P := P) (w := w) T
  have M_Score := mk_Score (P := P) (w := w) T
  obtain ⟨fd, F⟩ := T.D_read
  refine ⟨fd, F.ok sc_read (fun vs H Q E h => ?_) (fun cdv A outer s H vs Q E hr h => ?_), F.bindsN fun _ _ _ _ _ _ us hl => match us, hl with | [_], _ => rfl, F.kp, T.g_read⟩
  · obtain ⟨rs, Rs, rfl, _⟩ := h
    rfl
  · obtain ⟨rs, Rs, rfl, h1, h2, h3, q⟩ := h
    have hsl := scoreS_len h1 h2
    have hfew := h1.few
    have hpos := h1.pos
    have hfew2 := h2.few
    have ll := lines_len rs Rs
-- slots: 0 text 1 ranges 2 rules 3 score 4 row 5 told
-- needs: read_range read_rule mk_Score weight
    refine ⟨_, PSs.nox (pss_cons (ps_set (i := 1) sc_read.nd rfl (by first | exact Or.inl rfl | exact Or.inr rfl) (pe_lst pa_nil))
      (pss_cons (ps_set (i := 2) sc_read.nd rfl (by first | exact Or.inl rfl | exact Or.inr rfl) (pe_lst pa_nil))
      (pss_cons (ps_for PassesOwn.never rfl (pi_enum (by rfl) T.b_enumerate (pa_cons (pe_split (pv 0) pe_str) pa_nil)) (pg_tup rfl (pgs_cons (pg_name (i := 4) sc_read.nd rfl (by first | exact Or.inl rfl | exact Or.inr rfl)) (pgs_cons (pg_name (i := 5) sc_read.nd rfl (by first | exact Or.inl rfl | exact Or.inr rfl)) pgs_nil)))
        (pss_one (ps_if (pt_cmpR op_eq (pe_ix ix_list (pe_split (pv 5) pe_str) pe_int (fun _ _ => rfl)) pe_str (nomark _))
          (pss_cons (ps_if (PW.pt (pw_or (pt_cmpR (op_neD hr.units) (pv 2) (pe_lst pa_nil) (nomark _)) (pw_or1 (pt_cmpR op_eq (pe_callB call_len (by rfl) T.b_len PySem.boot_len (pa_cons (pv 1) pa_nil)) (pe_gi rfl T.i_VOICES) (nomark _)))))
            (pss_one ps_never)
            pss_nil)
          (pss_one (ps_expr (pe_bm PySem.F.plainAttrs_list PySem.F.slot_list_append PySem.F.type_list_append mt_append (pv 1) (pa_cons (dcall G_read_range (hr.mono (by decide)) (by rfl) (pa_cons (pv 5) (pa_cons (pv 4) pa_nil))) pa_nil)))))
          (pss_cons (ps_if (PW.pt (pw_or (pt_cmpR (op_eqD hr.units) (pv 1) (pe_lst pa_nil) (nomark _)) (pw_or1 (pt_cmpR op_eq (pe_callB call_len (by rfl) T.b_len PySem.boot_len (pa_cons (pv 2) pa_nil)) (pe_gi rfl T.i_RULES) (nomark _)))))
            (pss_one ps_never)
            pss_nil)
          (pss_one (ps_expr (pe_bm PySem.F.plainAttrs_list PySem.F.slot_list_append PySem.F.type_list_append mt_append (pv 2) (pa_cons (dcall G_read_rule (hr.mono (by decide)) (by rfl) (pa_cons (pv 5) (pa_cons (pe_callB call_len (by rfl) T.b_len PySem.boot_len (pa_cons (pv 1) pa_nil)) (pa_cons (pv 4) pa_nil)))) pa_nil))))))))
      (pss_cons (ps_set (i := 3) sc_read.nd rfl (by first | exact Or.inl rfl | exact Or.inr rfl) (kmake M_Score (hr.mono (by decide)) (by rfl) (pa_cons (pv 1) (pa_cons (pv 2) pa_nil))))
      (pss_cons (ps_if (pt_cmpR op_gt (dcall G_weight (hr.mono (by decide)) (by rfl) (pa_cons (pv 3) pa_nil)) (pe_gi rfl T.i_MOST_scores) (nomark _))
        (pss_one ps_never)
        pss_nil)
      (pss_one (ps_ret (pv 3)))))))), ?_⟩
    refine ⟨Nat.zero_le _, fun pr npr => ⟨Nat.zero_le _, fun pu npu => ?_⟩⟩
    have S0 : Same H (upd H pr (.lst [])) := Same.new npr
    have S1 := S0.trans (Same.new (o := .lst []) npu)
    have hru : pr ≠ pu := ne_of_none upd_same npu
    refine ⟨_, rfl, ⟨_, rfl⟩, _, _, rfl, rfl, by decide +kernel, Nat.le_trans (by omega : (scoreS rs Rs).length + 2 ≤ 100000) (by decide), fun la nla => ?_⟩
    rw [scoreS_split h1 h2]
    have S2 := S1.trans (Same.new (o := .lst ((linesS rs Rs).map V.str)) nla)
    have hur : pr ≠ la := ne_of_none (by rw [upd_ne hru]; exact upd_same) nla
    have hul : pu ≠ la := ne_of_none upd_same nla
    have lm : ((linesS rs Rs).map V.str).length = rs.length + Rs.length := by rw [List.length_map, ll]
    have npu2 : H pu = none := S0.free npu
    refine ⟨la, _, rfl, sql upd_same, for_it walk_enum (fun i σ H' => ∃ (x3 x4 x5 : Option V) (xr vu : List V), σ = [some (.str (scoreS rs Rs)), some (.ref pr), some (.ref pu), x3, x4, x5] ∧ Same H H' ∧ H' la = some (.lst ((linesS rs Rs).map V.str)) ∧ H' pr = some (.lst xr) ∧ H' pu = some (.lst vu) ∧
        Tups H' xr (rV (rs.take i)) ∧ RObjs K H' vu (Rs.take (i - rs.length)))
      ⟨none, none, none, [], [], rfl, S2, upd_same, by rw [upd_ne hur, upd_ne hru]; exact upd_same, by rw [upd_ne hul]; exact upd_same, .nil, by rw [Nat.zero_sub]; exact .nil⟩ (fun i σ H' _ ⟨_, _, _, _, _, _, _, h, _⟩ => sql h) ?_ ?_⟩
    · rintro i v σ H' H'' hi ⟨x3, x4, x5, xr, vu, rfl, SI, hla, hpr, hpu, txr, ovu⟩ ⟨Tt, u, v', rfl, nT, rfl, e1, e2⟩
      cases e1
      have e2 : ((linesS rs Rs).map V.str)[i]? = some v' := e2
      rw [lm] at hi
      have SA : Same H' (upd H' Tt (.tup [.int (i : Nat), v'])) := Same.new nT
      by_cases hin : i < rs.length
      · have hri := List.getElem?_eq_getElem hin
        have hrm := List.mem_of_getElem? hri
        obtain ⟨f1, f2, f3⟩ := h1.fig _ hrm
        rw [List.getElem?_map, lines_rng hri] at e2
        have e3 : V.str (rngS rs[i]) = v' := Option.some.inj e2
        subst e3
        have evu : vu = [] := by
          have := ovu.len
          rw [show i - rs.length = 0 by omega, List.take_zero] at this
          exact List.length_eq_zero_iff.mp this
        subst evu
        have lxr : xr.length = i := by rw [txr.len]; unfold rV; rw [List.length_map, List.length_take]; omega
        have hrl := rngS_len f1 f2
        refine ⟨Tt, _, rfl, sqt upd_same, rfl, _, _, rfl, _, _, rfl, rfl, ?_⟩
        refine ⟨_, rfl, ⟨_, rfl⟩, _, _, rfl, rfl, by decide +kernel, Nat.le_trans (by omega : (rngS rs[i]).length + 2 ≤ 100000) (by decide), fun ls nls => ?_⟩
        rw [rngS_split f1 f2]
        have SB := SA.trans (Same.new (o := .lst (List.map V.str (["voice", nS rs[i].1, nS rs[i].2] : List Str))) nls)
        refine ⟨ls, _, _, _, rfl, rfl, sql upd_same, atI_nat (j := 0) rfl, rfl, _, rfl, iteD rfl ?_⟩
        refine ⟨_, rfl, Nat.zero_le _, fun le nle => ?_⟩
        have SC := SB.trans (Same.new (o := .lst []) nle)
        refine ⟨.list [], .list [], .lst (sql (SC _ _ hpu)) .nil, .lst (sql upd_same) .nil, rfl, rfl, _, rfl, iteE eqv_nil ?_⟩
        refine ⟨_, rfl, _, _, rfl, .inl ⟨_, sql (SC _ _ hpr), rfl⟩, rfl, _, rfl, iteND (fun z => by have := V.int.inj z; omega) ?_⟩
        refine ⟨_, rfl, .inl ⟨rfl, _, sql (SC _ _ hpr)⟩, _, rfl, _, rfl, rs[i], _, rfl, f1, f2, f3, fun p H4 S4 hp => ?_⟩
        have SD := SC.trans S4
        have hpr4 := SD _ _ hpr
        refine ⟨pr, xr, .ref p, rfl, rfl, hpr4, szl (by omega), x3, some (.int (i : Nat)), some (.str (rngS rs[i])), xr ++ [.ref p], [], rfl, (SI.trans SD).mut npr, ?_, upd_same, ?_, ?_, ?_⟩
        · rw [upd_ne (Ne.symm hur)]
          exact SD _ _ hla
        · rw [upd_ne (Ne.symm hru)]
          exact SD _ _ hpu
        · rw [take_more hri]
          unfold rV
          rw [List.map_append]
          exact ((txr.mono SD.tk).mono (TK.lst hpr4)).snoc (TK.lst hpr4 _ _ hp)
        · rw [show i + 1 - rs.length = 0 by omega]
          exact .nil
      · have hj : i - rs.length < Rs.length := by omega
        have hRi := List.getElem?_eq_getElem hj
        have hRm := List.mem_of_getElem? hRi
        have hk := h2.ok _ hRm
        have e3 := lines_rule (rs := rs) hRi
        rw [show rs.length + (i - rs.length) = i by omega] at e3
        rw [List.getElem?_map, e3] at e2
        have e4 : V.str (rowS Rs[i - rs.length]) = v' := Option.some.inj e2
        subst e4
        rw [List.take_of_length_le (by omega)] at txr
        have lxr : xr.length = rs.length := by rw [txr.len]; unfold rV; rw [List.length_map]
        have lvu : vu.length = i - rs.length := by rw [ovu.len, List.length_take]; omega
        have hrl := rowS_len hfew hk
        refine ⟨Tt, _, rfl, sqt upd_same, rfl, _, _, rfl, _, _, rfl, rfl, ?_⟩
        refine ⟨_, rfl, ⟨_, rfl⟩, _, _, rfl, rfl, by decide +kernel, Nat.le_trans (by omega : (rowS Rs[i - rs.length]).length + 2 ≤ 100000) (by decide), fun ls nls => ?_⟩
        rw [rowS_split hfew hk]
        have SB := SA.trans (Same.new (o := .lst (List.map V.str (RK.words Rs[i - rs.length]))) nls)
        refine ⟨ls, _, _, _, rfl, rfl, sql upd_same, atI_nat (j := 0) rfl, rfl, _, rfl, iteND (kind_voice _) ?_⟩
        refine ⟨_, rfl, Nat.zero_le _, fun le nle => ?_⟩
        have SC := SB.trans (Same.new (o := .lst []) nle)
        refine ⟨.list (rngD rs), .list [], .lst (sql (SC _ _ hpr)) (dp_rng (txr.mono SC.tk)), .lst (sql upd_same) .nil, shaped_rng rs, rfl, _, rfl, iteE (eqv_rng hpos) ?_⟩
        refine ⟨_, rfl, _, _, rfl, .inl ⟨_, sql (SC _ _ hpu), rfl⟩, rfl, _, rfl, iteND (fun z => by have := V.int.inj z; omega) ?_⟩
        refine ⟨_, rfl, .inl ⟨rfl, _, sql (SC _ _ hpu)⟩, _, rfl, _, rfl, _, _, rfl, .inl ⟨_, sql (SC _ _ hpr), rfl⟩, _, rfl, rs.length, _, Rs[i - rs.length], by rw [lxr]; rfl, hfew, hk, fun p H4 S4 hp => ?_⟩
        have SD := SC.trans S4
        have hpu4 := SD _ _ hpu
        have fk := FK.upd (o := .lst (vu ++ [.ref p])) hpu4 ovu.refs
        refine ⟨pu, vu, .ref p, rfl, rfl, hpu4, szl (by omega), x3, some (.int (i : Nat)), some (.str (rowS Rs[i - rs.length])), xr, vu ++ [.ref p], rfl, (SI.trans SD).mut npu2, ?_, ?_, upd_same, ?_, ?_⟩
        · rw [upd_ne (Ne.symm hul)]
          exact SD _ _ hla
        · rw [upd_ne hru]
          exact SD _ _ hpr
        · rw [List.take_of_length_le (by omega)]
          exact (txr.mono SD.tk).mono (TK.lst hpu4)
        · rw [show i + 1 - rs.length = i - rs.length + 1 by omega, take_more hRi]
          exact paired_snoc ⟨p, rfl, hp.fk fk hk⟩ ((ovu.mono SD).fk fk fun R hR => h2.ok R (List.mem_of_mem_take hR))
    · rintro σ H' ⟨x3, x4, x5, xr, vu, rfl, SI, hla, hpr, hpu, txr, ovu⟩
      rw [lm] at txr ovu
      rw [List.take_of_length_le (by omega)] at txr
      rw [show rs.length + Rs.length - rs.length = Rs.length by omega, List.take_length] at ovu
      refine ⟨_, rfl, _, rfl, fun oo dx hx hdx hne => ?_⟩
      have hd1 : pr ≠ oo := ne_of_none hpr hx
      have hd2 : pr ≠ dx := ne_of_none hpr hdx
      have hd3 : pu ≠ oo := ne_of_none hpu hx
      have hd4 : pu ≠ dx := ne_of_none hpu hdx
      refine ⟨oo, dx, pr, pu, xr, vu, rfl, upd_same, sql (by rw [upd_ne hd1, upd_ne hd2]; exact hpr), sql (by rw [upd_ne hd3, upd_ne hd4]; exact hpu), fun H2 pa pb hk hr2 ha hb => ⟨rfl, ?_⟩⟩
      have SM := made_same2 hx hdx hk
      have SR : ScoreR K H2 oo rs Rs := ⟨dx, _, pa, pb, hr2, rfl, rfl, ⟨xr, sql ha, txr.mono SM.tk⟩, vu, hb, ovu.mono SM⟩
      refine ⟨_, rfl, oo, rs, Rs, rfl, SR, facs_pos h1 h2, by omega, _, _, rfl, rfl, _, rfl, iteND (by omega) ?_⟩
      exact ⟨_, rfl, q oo H2 (SI.trans SM) SR⟩
end
end Fv
set_option Elab.async false
set_option linter.all false
set_option maxRecDepth 100000
set_option maxHeartbeats 4000000
/-! The machine's states. -/
namespace Fv
open PySem PySem.Spec PyProof.Rows L2 _root_.TL
/-! ### how many states there are -/
theorem nodup_len {α : Type} [BEq α] [LawfulBEq α] : ∀ {l m : List α}, l.Nodup → (∀ x ∈ l, x ∈ m) → l.length ≤ m.length
  | [], _, _, _ => Nat.zero_le _
  | x :: l, m, hn, h => by
    obtain ⟨h1, h2⟩ := List.nodup_cons.mp hn
    have hm := h x (List.mem_cons_self ..)
    have ih := nodup_len (l := l) (m := m.erase x) h2 fun y hy => by
      have hne : y ≠ x := fun e => h1 (e ▸ hy)
      exact (List.mem_erase_of_ne hne).mpr (h y (List.mem_cons_of_mem _ hy))
    rw [List.length_erase_of_mem hm] at ih
    have : 0 < m.length := List.length_pos_of_mem hm
    rw [List.length_cons]
    omega
def MemOk (Rs : List RK) (ms : List Int) : Prop := ms.length = Rs.length ∧ ∀ (j : Nat) R m, Rs[j]? = some R → ms[j]? = some m → 0 ≤ m ∧ m < R.size
def memL : List RK → List (List Int)
  | [] => [[]]
  | R :: Rs => (memL Rs).flatMap fun ms => (List.range R.size.toNat).map fun k => ((k : Nat) : Int) :: ms
theorem memL_mem : ∀ {Rs : List RK} {ms : List Int}, MemOk Rs ms → ms ∈ memL Rs
  | [], ms, h => by
    have : ms = [] := List.length_eq_zero_iff.mp h.1
    rw [this]
    exact List.mem_cons_self ..
  | R :: Rs, [], h => by cases h.1
  | R :: Rs, m :: ms, h => by
    have h1 : MemOk Rs ms := ⟨by simpa using h.1, fun j R m e1 e2 => h.2 (j + 1) R m (by simpa using e1) (by simpa using e2)⟩
    have h2 := h.2 0 R m rfl rfl
    refine List.mem_flatMap.mpr ⟨ms, memL_mem h1, List.mem_map.mpr ⟨m.toNat, List.mem_range.mpr (by omega), ?_⟩⟩
    rw [show ((m.toNat : Nat) : Int) = m by omega]
theorem flat_len {α β : Type} {f : α → List β} {k : Nat} : ∀ {l : List α}, (∀ x ∈ l, (f x).length = k) → (l.flatMap f).length = l.length * k
  | [], _ => by simp
  | x :: l, h => by
    rw [List.flatMap_cons, List.length_append, h x (List.mem_cons_self ..), flat_len fun y hy => h y (List.mem_cons_of_mem _ hy), List.length_cons, Nat.add_mul]
    omega
theorem prod_cons (x : Int) (l : List Int) : prodI (x :: l) = x * prodI l := by
  show l.foldl (· * ·) (1 * x) = _
  rw [prod_from, Int.one_mul]
theorem memL_len : ∀ {Rs : List RK}, (∀ R ∈ Rs, 1 ≤ R.size) → (((memL Rs).length : Nat) : Int) = prodI (Rs.map RK.size)
  | [], _ => rfl
  | R :: Rs, h => by
    have ih := memL_len (Rs := Rs) fun S hS => h S (List.mem_cons_of_mem _ hS)
    have h1 := h R (List.mem_cons_self ..)
    unfold memL
    rw [flat_len (k := R.size.toNat) (fun x _ => by rw [List.length_map, List.length_range]), List.map_cons, prod_cons, ← ih, Int.natCast_mul, Int.mul_comm, show ((R.size.toNat : Nat) : Int) = R.size by omega]
theorem cols_go : ∀ (rs : Rng) (acc : List (List Int)), (∀ r ∈ rs, r.1 ≤ r.2) → (((rs.foldl colStep acc).length : Nat) : Int) = (acc.length : Nat) * prodI (rs.map wid)
  | [], acc, _ => by
    show ((acc.length : Nat) : Int) = (acc.length : Nat) * 1
    rw [Int.mul_one]
  | r :: rs, acc, h => by
    have h1 := h r (List.mem_cons_self ..)
    have e : (colStep acc r).length = acc.length * (r.2 + 1 - r.1).toNat := flat_len fun c _ => colF_len r c
    rw [List.foldl_cons, cols_go rs (colStep acc r) fun q hq => h q (List.mem_cons_of_mem _ hq), e, List.map_cons, prod_cons, Int.natCast_mul, Int.mul_assoc, show (((r.2 + 1 - r.1).toNat : Nat) : Int) = wid r by unfold wid; omega]
theorem cols_count {rs : Rng} (h : ∀ r ∈ rs, r.1 ≤ r.2) : (((cols rs).length : Nat) : Int) = prodI (rs.map wid) := by
  unfold cols
  rw [cols_go rs [[]] h]
  show (1 : Int) * _ = _
  rw [Int.one_mul]
theorem wids_pos {rs : Rng} (h : ∀ r ∈ rs, r.1 ≤ r.2) : ∀ x ∈ rs.map wid, 1 ≤ x := by
  intro x hx
  obtain ⟨r, hr, rfl⟩ := List.mem_map.mp hx
  have := h r hr
  unfold wid
  omega
theorem small_of {rs : Rng} (h1 : RngOk rs) (h2 : prodI (rs.map wid) ≤ 400) : Small rs := by
  have h3 : ∀ r ∈ rs, r.1 ≤ r.2 := fun r hr => (h1.fig r hr).2.2
  refine ⟨by have := h1.few; omega, fun i => ?_⟩
  have e := cols_count (rs := rs.take i) fun r hr => h3 r (List.mem_of_mem_take hr)
  rw [List.map_take] at e
  have := (prod_take (wids_pos h3) i).2
  omega
/-- a score that fits -/
structure Fits (rs : Rng) (Rs : List RK) : Prop where
  r : RngOk rs
  u : RulesOk rs.length Rs
  w : prodI (facs rs Rs) ≤ 400
theorem Fits.wr {rs : Rng} {Rs : List RK} (h : Fits rs Rs) : prodI (rs.map wid) ≤ 400 := by
  have h1 := (prod_take (facs_pos h.r h.u) rs.length).2
  have e : (facs rs Rs).take rs.length = rs.map wid := by
    unfold facs
    rw [List.take_append_of_le_length (by rw [List.length_map]; exact Nat.le_refl _), List.take_of_length_le (by rw [List.length_map]; exact Nat.le_refl _)]
  rw [e] at h1
  have := h.w
  omega
theorem Fits.small {rs : Rng} {Rs : List RK} (h : Fits rs Rs) : Small rs := small_of h.r h.wr
/-- a state that may come -/
def Leg (rs : Rng) (Rs : List RK) (k : SK) : Prop := (∀ c, k.1 = some c → c ∈ cols rs) ∧ MemOk Rs k.2
theorem leg_few {rs : Rng} {Rs : List RK} (h : Fits rs Rs) {ks : List SK} (hn : ks.Nodup) (hk : ∀ k ∈ ks, Leg rs Rs k) : ks.length ≤ 800 := by
  have h1 := nodup_len (m := (none :: (cols rs).map some).flatMap fun b => (memL Rs).map fun m => (b, m)) hn fun k hk2 => by
    obtain ⟨h2, h3⟩ := hk k hk2
    obtain ⟨b, m⟩ := k
    refine List.mem_flatMap.mpr ⟨b, ?_, List.mem_map.mpr ⟨m, memL_mem h3, rfl⟩⟩
    cases b with
    | none => exact List.mem_cons_self ..
    | some c => exact List.mem_cons_of_mem _ (List.mem_map.mpr ⟨c, h2 c rfl, rfl⟩)
  rw [flat_len (k := (memL Rs).length) (fun b _ => List.length_map ..), List.length_cons, List.length_map] at h1
  have hsz : ∀ R ∈ Rs, 1 ≤ R.size := fun R hR => RK.size_pos (h.u.ok R hR)
  have e1 := memL_len hsz
  have h3 : ∀ r ∈ rs, r.1 ≤ r.2 := fun r hr => (h.r.fig r hr).2.2
  have e2 := cols_count h3
  have hp := prod_pos (wids_pos h3)
  have e3 : prodI (facs rs Rs) = ((((cols rs).length * (memL Rs).length : Nat)) : Int) := by
    unfold facs
    rw [prod_append, ← e1, ← e2, Int.natCast_mul]
  have h4 := h.w
  have h5 : (cols rs).length * (memL Rs).length ≤ 400 := by omega
  have h6 : 1 ≤ (cols rs).length := by omega
  have h7 : ((cols rs).length + 1) * (memL Rs).length ≤ ((cols rs).length + (cols rs).length) * (memL Rs).length := Nat.mul_le_mul_right _ (by omega)
  rw [Nat.add_mul (cols rs).length (cols rs).length] at h7
  omega
section
variable {P : Program} {w : World} {K : PySem.W.Frag} {mg : Str → Option Value} {base : Heap}
def sp_first_state (K : PySem.W.Frag) : Sp := fun vs H Q _ => ∃ (s : Addr) (rs : Rng) (Rs : List RK), vs = [.ref s] ∧ ScoreR K H s rs Rs ∧ Fits rs Rs ∧ ∀ b k H', Same H H' → StIs H' k b → Leg rs Rs k → Q (.ref b) H'
theorem ok_first_state (T : Top K mg base) : DOk P w K mg base "first_state" 2 ["score"] (sp_first_state K) := by
  have R_start := R_start (P := P) (w := w) T
  obtain ⟨fd, F⟩ := T.D_first_state
  refine ⟨fd, F.ok sc_first_state (fun vs H Q E h => ?_) (fun cdv A outer s H vs Q E hr h => ?_), F.bindsN fun _ _ _ _ _ _ us hl => match us, hl with | [_], _ => rfl, F.kp, T.g_first_state⟩
  · obtain ⟨s, rs, Rs, rfl, _⟩ := h
    rfl
  · obtain ⟨sa, rs, Rs, rfl, S, hf, q⟩ := h
    obtain ⟨dx, fs, ra, ua, e1, e2, e3, e4, vs, e5, e6⟩ := S.ob
    have hfew := hf.u.few
    have lv := e6.len
-- slots: 0 score 1 rule
-- needs: R_start
    refine ⟨_, PSs.nox (pss_one (ps_ret (pe_tup (pa_cons pe_non (pa_cons (pe_callTy call_tuple_of (by rfl) T.b_tuple (by decide +kernel) (pa_cons (pe_lc (own := [("rule", 1)]) (g := gName 1) (tt := tYes) rfl sc_first_state.nd (pi_list (pe_fld (pv 0) rfl)) (blkOk_by (N := N_first_state) (sc := defScope s_first_state) (by decide +kernel)) (fun _ _ _ _ _ => pg_name (i := 1) sc_first_state.nd rfl (Or.inl rfl)) (fun _ _ _ _ _ => pts_nil) (fun _ _ _ _ _ => (show PE _ _ (tRule K _ _ _ _ _) from (rcall0 R_start (hr.mono (by decide)) (pv 1))))) pa_nil)) pa_nil))))), ?_⟩
    refine ⟨_, rfl, sa, _, dx, fs, _, rfl, e1, T.c_Score, T.n_Score_rules, e3, ua, rfl, ⟨_, sql e5⟩, fun D hD => lc_list (K := K) (a := ua) (xs := vs) (fun j H' => Same H H' ∧ H' D = some (.lst (iV (List.replicate j 0))))
      ⟨Same.new hD, upd_same⟩ (fun j H' _ ⟨s, _⟩ => sql (s _ _ e5)) ?_ ?_⟩
    · rintro j v H' hv ⟨SJ, hy⟩
      obtain ⟨r, R, rfl, hRi, hRO⟩ := (e6.mono SJ).get hv
      have hj : j < vs.length := (List.getElem?_eq_some_iff.mp hv).1
      obtain ⟨dx2, fs2, g1, g2⟩ := hRO.ins
      refine ⟨rfl, _, rfl, R.cls, R.cls_mem, r, dx2, fs2, rfl, g1, g2 "start" (by decide +kernel), r, rfl, _, hy, ?_, SJ.mut hD, ?_⟩
      · refine szl ?_
        show (List.map V.int (List.replicate j 0)).length < 100000
        rw [List.length_map, List.length_replicate]
        omega
      · rw [upd_same]
        unfold iV
        rw [List.replicate_succ', List.map_append]
        rfl
    · rintro H' ⟨SJ, hy⟩
      refine ⟨D, _, rfl, .inl ⟨sql hy, fun l nl => ⟨by show 2 ≤ sizeLine; decide, fun t nt => ?_⟩⟩⟩
      have S1 := Same.new (o := .tup (iV (List.replicate vs.length 0))) nl
      have S2 := S1.trans (Same.new (o := .tup [.non, .ref l]) nt)
      refine q t (none, List.replicate vs.length 0) _ (SJ.trans S2) ⟨.non, l, upd_same, (Same.new nt) _ _ upd_same, rfl⟩ ⟨fun c e => (nomatch e), ?_, fun j R m e1 e2 => ?_⟩
      · show (List.replicate vs.length (0 : Int)).length = Rs.length
        rw [List.length_replicate, lv]
      · have h0 : m = 0 := (List.mem_replicate.mp (List.mem_of_getElem? e2)).2
        have := RK.size_pos (hf.u.ok R (List.mem_of_getElem? e1))
        omega
def sp_next_state (K : PySem.W.Frag) : Sp := fun vs H Q _ => ∃ (s st ca : Addr) (rs : Rng) (Rs : List RK) (k : SK) (c : List Int), vs = [.ref s, .ref st, .ref ca] ∧ ScoreR K H s rs Rs ∧ Fits rs Rs ∧ StIs H k st ∧ Leg rs Rs k ∧ H ca = some (.tup (iV c)) ∧ c ∈ cols rs ∧
  ∀ v H', Same H H' → (v = .non ∨ ∃ b k', v = .ref b ∧ StIs H' k' b ∧ Leg rs Rs k') → Q v H'
theorem bf_len {rs : Rng} {Rs : List RK} {k : SK} (h : Leg rs Rs k) : ∀ x, k.1 = some x → x.length = rs.length := fun x e => cols_len (h.1 x e)
theorem ok_next_state (T : Top K mg base) : DOk P w K mg base "next_state" 3 ["score", "state", "column"] (sp_next_state K) := by
  have R_after := R_after (P := P) (w := w) T
  obtain ⟨fd, F⟩ := T.D_next_state
  refine ⟨fd, F.ok sc_next_state (fun vs H Q E h => ?_) (fun cdv A outer s H vs Q E hr h => ?_), F.bindsN fun _ _ _ _ _ _ us hl => match us, hl with | [_, _, _], _ => rfl, F.kp, T.g_next_state⟩
  · obtain ⟨s, st, ca, rs, Rs, k, c, rfl, _⟩ := h
    rfl
  · obtain ⟨sa, st, ca, rs, Rs, k, c, rfl, S, hf, hst, hleg, hca, hcm, q⟩ := h
    obtain ⟨dx, fs, ra, ua, e1, e2, e3, e4, vs, e5, e6⟩ := S.ob
    obtain ⟨bv, mv, s1, s2, s3⟩ := hst
    have hfew := hf.u.few
    have lv := e6.len
    have lm := hleg.2.1
    have hcl := cols_len hcm
-- slots: 0 score 1 state 2 column 3 found 4 before 5 memories 6 rule 7 memory 8 behind
-- needs: R_after
    refine ⟨_, PSs.nox (pss_cons (ps_asg (pv 1) (pg_tup rfl (pgs_cons (pg_name (i := 4) sc_next_state.nd rfl (by first | exact Or.inl rfl | exact Or.inr rfl)) (pgs_cons (pg_name (i := 5) sc_next_state.nd rfl (by first | exact Or.inl rfl | exact Or.inr rfl)) pgs_nil))))
      (pss_cons (ps_set (i := 3) sc_next_state.nd rfl (by first | exact Or.inl rfl | exact Or.inr rfl) (pe_lst pa_nil))
      (pss_cons (ps_for PassesOwn.never rfl (pi_zipM (by rfl) T.b_zip (pa_cons (pe_fld (pv 0) rfl) (pa_cons (pv 5) pa_nil))) (pg_tup rfl (pgs_cons (pg_name (i := 6) sc_next_state.nd rfl (by first | exact Or.inl rfl | exact Or.inr rfl)) (pgs_cons (pg_name (i := 7) sc_next_state.nd rfl (by first | exact Or.inl rfl | exact Or.inr rfl)) pgs_nil)))
        (pss_cons (ps_set (i := 8) sc_next_state.nd rfl (by first | exact Or.inl rfl | exact Or.inr rfl) (rcall R_after (hr.mono (by decide)) (pv 6) (pa_cons (pv 7) (pa_cons (pv 4) (pa_cons (pv 2) pa_nil)))))
        (pss_cons (ps_if (pt_cmpR op_isN (pv 8) pe_non (nomark _))
          (pss_one (ps_ret pe_non))
          pss_nil)
        (pss_one (ps_expr (pe_bm PySem.F.plainAttrs_list PySem.F.slot_list_append PySem.F.type_list_append mt_append (pv 3) (pa_cons (pv 8) pa_nil)))))))
      (pss_one (ps_ret (pe_tup (pa_cons (pv 2) (pa_cons (pe_callTy call_tuple_of (by rfl) T.b_tuple (by decide +kernel) (pa_cons (pv 3) pa_nil)) pa_nil)))))))), ?_⟩
    refine ⟨_, rfl, st, _, rfl, sqt s1, rfl, _, _, rfl, _, _, rfl, rfl, ?_⟩
    refine ⟨Nat.zero_le _, fun p np => ?_⟩
    have S0 : Same H (upd H p (.lst [])) := Same.new np
    refine ⟨_, rfl, sa, _, dx, fs, _, rfl, S0 _ _ e1, T.c_Score, T.n_Score_rules, e3, _, rfl, ua, mv, vs, iV k.2, rfl, sql (S0 _ _ e5), sqt (S0 _ _ s2), ?_⟩
    refine for_it (walk_zipM (by show vs.length = (k.2.map V.int).length; rw [List.length_map]; omega)) (fun i σ H' => ∃ (x6 x7 x8 : Option V) (acc : List Int), σ = [some (.ref sa), some (.ref st), some (.ref ca), some (.ref p), some bv, some (.ref mv), x6, x7, x8] ∧ Same H H' ∧ H' p = some (.lst (iV acc)) ∧ acc.length = i ∧
        ∀ (j : Nat) R m, Rs[j]? = some R → acc[j]? = some m → 0 ≤ m ∧ m < R.size)
      ⟨none, none, none, [], rfl, S0, upd_same, rfl, fun j R m _ e => by simp at e⟩ (fun i σ H' _ ⟨_, _, _, _, _, s, _⟩ => ⟨sql (s _ _ e5), sqt (s _ _ s2)⟩) ?_ ?_
    · rintro i v σ H' H'' hi ⟨x6, x7, x8, acc, rfl, SI, hp, la, hacc⟩ ⟨Tt, u, v', rfl, nT, rfl, e7, e8⟩
      have SA : Same H' (upd H' Tt (.tup [u, v'])) := Same.new nT
      have SB := SI.trans SA
      have e7 : vs[i]? = some u := e7
      have e8 : (k.2.map V.int)[i]? = some v' := e8
      obtain ⟨r, R, rfl, hRi, hRO⟩ := (e6.mono SB).get e7
      obtain ⟨m, hmi, rfl⟩ := get_int e8
      obtain ⟨hm0, hm1⟩ := hleg.2.2 i R m hRi hmi
      obtain ⟨dx2, fs2, g1, g2⟩ := hRO.ins
      refine ⟨Tt, _, rfl, sqt upd_same, rfl, _, _, rfl, _, _, rfl, rfl, ?_⟩
      refine ⟨_, rfl, R.cls, R.cls_mem, r, dx2, fs2, rfl, g1, g2 "after" (by decide +kernel), _, rfl, _, rfl, _, rfl, r, ca, R, m, bv, k.1, c, rs.length, rfl, hRO, rfl, hf.u.ok R (List.mem_of_getElem? hRi), hm0, hm1, s3.mono SB.tk, bf_len hleg, SB _ _ hca, hcl, fun v H3 S3 hv => ?_⟩
      have SC := SA.trans S3
      rcases hv with rfl | ⟨m2, rfl, hm2, hm3⟩
      · exact ⟨_, rfl, rfl, _, rfl, iteD rfl (q .non H3 (SI.trans SC) (.inl rfl))⟩
      · refine ⟨_, rfl, rfl, _, rfl, iteND (fun z => nomatch z) ?_⟩
        refine ⟨_, rfl, .inl ⟨rfl, _, sql (SC _ _ hp)⟩, _, rfl, p, iV acc, .int m2, rfl, rfl, SC _ _ hp, ?_, some (.ref r), some (.int m), some (.int m2), acc ++ [m2], rfl, (SI.trans SC).mut np, ?_, ?_, ?_⟩
        · refine szl ?_
          show (List.map V.int acc).length < 100000
          rw [List.length_map]
          have hi2 : i < vs.length := hi
          omega
        · rw [upd_same]
          unfold iV
          rw [List.map_append]
          rfl
        · rw [List.length_append, la]
          rfl
        · intro j R2 m4 f1 f2
          by_cases hj : j < acc.length
          · rw [List.getElem?_append_left hj] at f2
            exact hacc j R2 m4 f1 f2
          · rw [List.getElem?_append_right (by omega)] at f2
            have hj2 : j - acc.length = 0 := by
              rcases Nat.eq_zero_or_pos (j - acc.length) with h | h
              · exact h
              · rw [List.getElem?_eq_none (by simp; omega)] at f2
                cases f2
            rw [hj2] at f2
            have f3 : m2 = m4 := Option.some.inj f2
            have f4 : j = i := by omega
            subst f3 f4
            rw [hRi] at f1
            cases f1
            exact ⟨hm2, hm3⟩
    · rintro σ H' ⟨x6, x7, x8, acc, rfl, SI, hp, la, hacc⟩
      refine ⟨_, rfl, _, rfl, p, iV acc, rfl, .inl ⟨sql hp, fun l nl => ⟨by show 2 ≤ sizeLine; decide, fun t nt => ?_⟩⟩⟩
      have S1 := Same.new (o := .tup (iV acc)) nl
      have S2 := S1.trans (Same.new (o := .tup [.ref ca, .ref l]) nt)
      refine q _ _ (SI.trans S2) (.inr ⟨t, (some c, acc), rfl, ⟨.ref ca, l, upd_same, (Same.new nt) _ _ upd_same, ca, rfl, S2 _ _ (SI _ _ hca)⟩, fun c2 e => by cases e; exact hcm, by show acc.length = Rs.length; omega, hacc⟩)
def sp_ends_well (K : PySem.W.Frag) : Sp := fun vs H Q _ => ∃ (s st : Addr) (rs : Rng) (Rs : List RK) (k : SK), vs = [.ref s, .ref st] ∧ ScoreR K H s rs Rs ∧ Fits rs Rs ∧ StIs H k st ∧ Leg rs Rs k ∧ ∀ (b : Bool) H', Same H H' → Q (.bl b) H'
theorem ok_ends_well (T : Top K mg base) : DOk P w K mg base "ends_well" 2 ["score", "state"] (sp_ends_well K) := by
  have R_closes := R_closes (P := P) (w := w) T
  obtain ⟨fd, F⟩ := T.D_ends_well
  refine ⟨fd, F.ok sc_ends_well (fun vs H Q E h => ?_) (fun cdv A outer s H vs Q E hr h => ?_), F.bindsN fun _ _ _ _ _ _ us hl => match us, hl with | [_, _], _ => rfl, F.kp, T.g_ends_well⟩
  · obtain ⟨s, st, rs, Rs, k, rfl, _⟩ := h
    rfl
  · obtain ⟨sa, st, rs, Rs, k, rfl, S, hf, hst, hleg, q⟩ := h
    obtain ⟨dx, fs, ra, ua, e1, e2, e3, e4, vs, e5, e6⟩ := S.ob
    obtain ⟨bv, mv, s1, s2, s3⟩ := hst
    have lv := e6.len
    have lm := hleg.2.1
-- slots: 0 score 1 state 2 last 3 memories 4 rule 5 memory
-- needs: R_closes
    refine ⟨_, PSs.nox (pss_cons (ps_asg (pv 1) (pg_tup rfl (pgs_cons (pg_name (i := 2) sc_ends_well.nd rfl (by first | exact Or.inl rfl | exact Or.inr rfl)) (pgs_cons (pg_name (i := 3) sc_ends_well.nd rfl (by first | exact Or.inl rfl | exact Or.inr rfl)) pgs_nil))))
      (pss_cons (ps_for PassesOwn.never rfl (pi_zipM (by rfl) T.b_zip (pa_cons (pe_fld (pv 0) rfl) (pa_cons (pv 3) pa_nil))) (pg_tup rfl (pgs_cons (pg_name (i := 4) sc_ends_well.nd rfl (by first | exact Or.inl rfl | exact Or.inr rfl)) (pgs_cons (pg_name (i := 5) sc_ends_well.nd rfl (by first | exact Or.inl rfl | exact Or.inr rfl)) pgs_nil)))
        (pss_one (ps_if (pt_not (pt_val (rcall R_closes (hr.mono (by decide)) (pv 4) (pa_cons (pv 5) (pa_cons (pv 2) pa_nil)))))
          (pss_one (ps_ret pe_bl))
          pss_nil)))
      (pss_one (ps_ret pe_bl)))), ?_⟩
    refine ⟨_, rfl, st, _, rfl, sqt s1, rfl, _, _, rfl, _, _, rfl, rfl, ?_⟩
    refine ⟨_, rfl, sa, _, dx, fs, _, rfl, e1, T.c_Score, T.n_Score_rules, e3, _, rfl, ua, mv, vs, iV k.2, rfl, sql e5, sqt s2, ?_⟩
    refine for_it (walk_zipM (by show vs.length = (k.2.map V.int).length; rw [List.length_map]; omega)) (fun i σ H' => ∃ (x6 x7 : Option V), σ = [some (.ref sa), some (.ref st), some bv, some (.ref mv), x6, x7] ∧ Same H H')
      ⟨none, none, rfl, Same.refl _⟩ (fun i σ H' _ ⟨_, _, _, s⟩ => ⟨sql (s _ _ e5), sqt (s _ _ s2)⟩) ?_ ?_
    · rintro i v σ H' H'' hi ⟨x6, x7, rfl, SI⟩ ⟨Tt, u, v', rfl, nT, rfl, e7, e8⟩
      have SA : Same H' (upd H' Tt (.tup [u, v'])) := Same.new nT
      have SB := SI.trans SA
      have e7 : vs[i]? = some u := e7
      have e8 : (k.2.map V.int)[i]? = some v' := e8
      obtain ⟨r, R, rfl, hRi, hRO⟩ := (e6.mono SB).get e7
      obtain ⟨m, hmi, rfl⟩ := get_int e8
      obtain ⟨dx2, fs2, g1, g2⟩ := hRO.ins
      refine ⟨Tt, _, rfl, sqt upd_same, rfl, _, _, rfl, _, _, rfl, rfl, ?_⟩
      refine ⟨_, rfl, R.cls, R.cls_mem, r, dx2, fs2, rfl, g1, g2 "closes" (by decide +kernel), _, rfl, _, rfl, r, R, m, bv, k.1, rs.length, rfl, hRO, rfl, hf.u.ok R (List.mem_of_getElem? hRi), s3.mono SB.tk, bf_len hleg, fun bb => ?_⟩
      refine ⟨bb, rfl, ?_⟩
      cases bb with
      | false => exact iteT (q false _ SB)
      | true => exact iteF ⟨some (.ref r), some (.int m), rfl, SB⟩
    · rintro σ H' ⟨x6, x7, rfl, SI⟩
      exact q true _ SI
end
end Fv
set_option Elab.async false
set_option linter.all false
set_option maxRecDepth 100000
set_option maxHeartbeats 4000000
/-! The machine's maker. -/
namespace Fv
open PySem PySem.Spec PyProof.Rows L2 _root_.TL
abbrev KnX := List (SK × Addr × V)
structure KI (P : Program) (w : World) (rs : Rng) (Rs : List RK) (sl kn : Addr) (H : Hp) (xs : KnX) : Prop where
  hsl : H sl = some (.lst (xs.map fun x => V.ref x.2.1))
  hkn : H kn = some (NkO P w kn xs)
  keys : NkKeys H xs
  leg : ∀ x ∈ xs, Leg rs Rs x.1
  nodup : (xs.map (·.1)).Nodup
  to : ∀ x ∈ xs, ∃ t : Nat, x.2.2 = V.int t ∧ t < xs.length
theorem NkKeys.mono {H H' : Hp} {xs : KnX} (s : TK H H') (h : NkKeys H xs) : NkKeys H' xs := fun x hx => (h x hx).mono s
theorem KI.few {P : Program} {w : World} {rs : Rng} {Rs : List RK} {sl kn : Addr} {H : Hp} {xs : KnX} (h : KI P w rs Rs sl kn H xs) (hf : Fits rs Rs) : xs.length ≤ 800 := by
  have h1 := leg_few hf h.nodup fun k hk => by
    obtain ⟨x, hx, rfl⟩ := List.mem_map.mp hk
    exact h.leg x hx
  rw [List.length_map] at h1
  exact h1
theorem valS_none {xs : KnX} {k : SK} (h : valS xs k = none) : k ∉ xs.map (·.1) := by
  intro hm
  obtain ⟨x, hx, e⟩ := List.mem_map.mp hm
  unfold valS at h
  cases q : xs.find? (fun x => decide (x.1 = k)) with
  | none =>
    have h2 := List.find?_eq_none.mp q x hx
    exact h2 (decide_eq_true e)
  | some y => rw [q] at h; cases h
theorem valS_some {xs : KnX} {k : SK} {v : V} (h : valS xs k = some v) : ∃ x ∈ xs, x.2.2 = v := by
  unfold valS at h
  cases q : xs.find? (fun x => decide (x.1 = k)) with
  | none => rw [q] at h; cases h
  | some y =>
    rw [q] at h
    exact ⟨y, List.mem_of_find?_eq_some q, Option.some.inj h⟩
theorem valS_snoc {xs : KnX} {k : SK} {b : Addr} {v : V} (h : valS xs k = none) : valS (xs ++ [(k, b, v)]) k = some v := by
  unfold valS at h ⊢
  rw [List.find?_append]
  cases q : xs.find? (fun x => decide (x.1 = k)) with
  | none => simp
  | some y => rw [q] at h; cases h
theorem put_to {row : Row} {k : List Key} {t n : Nat} (h : ∀ e ∈ row, ∃ t : Nat, e.2 = V.int t ∧ t < n) (ht : t < n) : ∀ e ∈ putK row k (V.int t), ∃ t : Nat, e.2 = V.int t ∧ t < n := by
  intro e he
  unfold putK at he
  split at he
  · obtain ⟨e1, h1, h2⟩ := List.mem_map.mp he
    split at h2
    · subst h2
      exact ⟨t, rfl, ht⟩
    · subst h2
      exact h e1 h1
  · rcases List.mem_append.mp he with h1 | h1
    · exact h e h1
    · rw [List.mem_singleton.mp h1]
      exact ⟨t, rfl, ht⟩
theorem put_len (row : Row) (k : List Key) (v : V) : (putK row k v).length ≤ row.length + 1 := by
  unfold putK
  split
  · rw [List.length_map]
    omega
  · rw [List.length_append]
    exact Nat.le_refl _
theorem Dicts.upd {H : Hp} {p : Addr} {o : HO} {ds : List V} {rows : List Row} (h : Dicts H ds rows) (hp : ∀ a, V.ref a ∈ ds → a ≠ p) : Dicts (upd H p o) ds rows := by
  induction h with
  | nil => exact .nil
  | cons r t ih =>
    obtain ⟨a, e, q⟩ := r
    subst e
    exact .cons ⟨a, rfl, by rw [upd_ne (hp a (List.mem_cons_self ..))]; exact q⟩ (ih fun b hb => hp b (List.mem_cons_of_mem _ hb))
theorem Dicts.mem {H : Hp} {ds : List V} {rows : List Row} (h : Dicts H ds rows) : ∀ a, V.ref a ∈ ds → ∃ r, H a = some (.dT r) := by
  induction h with
  | nil => exact fun a ha => nomatch ha
  | cons r t ih =>
    intro a ha
    rcases List.mem_cons.mp ha with e | ha
    · obtain ⟨b, e2, q⟩ := r
      have e3 : V.ref a = V.ref b := e.trans e2
      cases e3
      exact ⟨_, q⟩
    · exact ih a ha
theorem Dicts.ne {H : Hp} {p : Addr} {o u : HO} {ds : List V} {rows : List Row} (h : Dicts H ds rows) (hp : H p = some u) (hu : ∀ r, u ≠ .dT r) : Dicts (L2.upd H p o) ds rows := h.upd fun a ha => by
  obtain ⟨r, hr⟩ := h.mem a ha
  exact ne_of hr hp fun z => hu r z.symm
def machF (sc wl gl : Addr) : List (Str × V) := putF "good" (.ref gl) (putF "ways" (.ref wl) (putF "score" (.ref sc) []))
structure MI (P : Program) (w : World) (K : PySem.W.Frag) (rs : Rng) (Rs : List RK) (H0 : Hp) (r dx sc wl gl sl kn : Addr) (ds : List V) (ways : List Row) (good : List Bool) (H : Hp) (xs : KnX) : Prop where
  same : Same H0 H
  ob : H r = some (.ins (He.ga K "Machine") dx (machF sc wl gl))
  hwl : H wl = some (.lst ds)
  dicts : Dicts H ds ways
  hgl : H gl = some (.lst (good.map V.bl))
  len : good.length = ways.length
  ki : KI P w rs Rs sl kn H xs
  to : ∀ row ∈ ways, ∀ e ∈ row, ∃ t : Nat, e.2 = V.int t ∧ t < xs.length
  le : ways.length ≤ xs.length
  n1 : wl ≠ gl
  n2 : sl ≠ wl
  n3 : sl ≠ gl
  f1 : H0 r = none
  f2 : H0 wl = none
  f3 : H0 gl = none
  f4 : H0 sl = none
  f5 : H0 kn = none
section
variable {P : Program} {w : World} {K : PySem.W.Frag} {rs : Rng} {Rs : List RK} {H0 H H' : Hp} {r dx sc wl gl sl kn : Addr} {ds : List V} {ways : List Row} {good : List Bool} {xs : KnX}
theorem MI.mono (m : MI P w K rs Rs H0 r dx sc wl gl sl kn ds ways good H xs) (s : Same H H') : MI P w K rs Rs H0 r dx sc wl gl sl kn ds ways good H' xs :=
  { same := m.same.trans s, ob := s _ _ m.ob, hwl := s _ _ m.hwl, dicts := m.dicts.mono fun d r q => s _ _ q, hgl := s _ _ m.hgl, len := m.len,
    ki := { hsl := s _ _ m.ki.hsl, hkn := s _ _ m.ki.hkn, keys := m.ki.keys.mono s.tk, leg := m.ki.leg, nodup := m.ki.nodup, to := m.ki.to }, to := m.to, le := m.le, n1 := m.n1, n2 := m.n2, n3 := m.n3, f1 := m.f1, f2 := m.f2, f3 := m.f3, f4 := m.f4, f5 := m.f5 }
theorem MI.upd_d {d : Addr} {row row2 : Row} (m : MI P w K rs Rs H0 r dx sc wl gl sl kn ds ways good H xs) (hd : H d = some (.dT row)) (hnd : ∀ a, V.ref a ∈ ds → a ≠ d) (h0 : H0 d = none) : MI P w K rs Rs H0 r dx sc wl gl sl kn ds ways good (upd H d (.dT row2)) xs :=
  { same := m.same.mut h0, ob := by rw [upd_ne (ne_of m.ob hd (fun z => nomatch z))]; exact m.ob, hwl := by rw [upd_ne (ne_of m.hwl hd (fun z => nomatch z))]; exact m.hwl, dicts := m.dicts.upd hnd, hgl := by rw [upd_ne (ne_of m.hgl hd (fun z => nomatch z))]; exact m.hgl, len := m.len,
    ki := { hsl := by rw [upd_ne (ne_of m.ki.hsl hd (fun z => nomatch z))]; exact m.ki.hsl, hkn := by rw [upd_ne (ne_of m.ki.hkn hd (fun z => nomatch z))]; exact m.ki.hkn, keys := m.ki.keys.mono (TK.dT hd), leg := m.ki.leg, nodup := m.ki.nodup, to := m.ki.to },
    to := m.to, le := m.le, n1 := m.n1, n2 := m.n2, n3 := m.n3, f1 := m.f1, f2 := m.f2, f3 := m.f3, f4 := m.f4, f5 := m.f5 }
theorem TK.nk {H : Hp} {p : Addr} {o : HO} {ys : KnX} (h : H p = some (NkO P w p ys)) : TK H (L2.upd H p o) := TK.upd h fun _ z => nomatch z
theorem MI.add {k : SK} {b : Addr} (m : MI P w K rs Rs H0 r dx sc wl gl sl kn ds ways good H xs) (hb : StIs H k b) (hl : Leg rs Rs k) (hn : valS xs k = none) :
    MI P w K rs Rs H0 r dx sc wl gl sl kn ds ways good (upd (upd H kn (NkO P w kn (xs ++ [(k, b, .int (xs.length : Nat))]))) sl (.lst ((xs.map fun x => V.ref x.2.1) ++ [.ref b]))) (xs ++ [(k, b, .int (xs.length : Nat))]) := by
  have e1 : sl ≠ kn := ne_of m.ki.hsl m.ki.hkn fun z => nomatch z
  have hs : (upd H kn (NkO P w kn (xs ++ [(k, b, .int (xs.length : Nat))]))) sl = some (.lst (xs.map fun x => V.ref x.2.1)) := by
    rw [upd_ne e1]
    exact m.ki.hsl
  have tk : TK H (upd (upd H kn (NkO P w kn (xs ++ [(k, b, .int (xs.length : Nat))]))) sl (.lst ((xs.map fun x => V.ref x.2.1) ++ [.ref b]))) := (TK.nk m.ki.hkn).trans (TK.lst hs)
  have ll : (xs ++ [(k, b, V.int (xs.length : Nat))]).length = xs.length + 1 := by rw [List.length_append]; rfl
  exact {
    same := (m.same.mut m.f5).mut m.f4
    ob := by rw [upd_ne (ne_of m.ob m.ki.hsl (fun z => nomatch z)), upd_ne (ne_of m.ob m.ki.hkn (fun z => nomatch z))]; exact m.ob
    hwl := by rw [upd_ne (Ne.symm m.n2), upd_ne (ne_of m.hwl m.ki.hkn (fun z => nomatch z))]; exact m.hwl
    dicts := (m.dicts.ne m.ki.hkn fun r z => nomatch z).ne hs fun r z => nomatch z
    hgl := by rw [upd_ne (Ne.symm m.n3), upd_ne (ne_of m.hgl m.ki.hkn (fun z => nomatch z))]; exact m.hgl
    len := m.len
    ki := {
      hsl := by rw [upd_same, List.map_append]; rfl
      hkn := by rw [upd_ne (Ne.symm e1)]; exact upd_same
      keys := fun x hx => by
        rcases List.mem_append.mp hx with hx | hx
        · exact (m.ki.keys x hx).mono tk
        · rw [List.mem_singleton.mp hx]
          exact hb.mono tk
      leg := fun x hx => by
        rcases List.mem_append.mp hx with hx | hx
        · exact m.ki.leg x hx
        · rw [List.mem_singleton.mp hx]
          exact hl
      nodup := by
        rw [List.map_append]
        refine List.nodup_append.mpr ⟨m.ki.nodup, by simp, fun a ha c hc => ?_⟩
        have hc2 : c = k := List.mem_singleton.mp hc
        rw [hc2]
        exact fun e => valS_none hn (e ▸ ha)
      to := fun x hx => by
        rw [ll]
        rcases List.mem_append.mp hx with hx | hx
        · obtain ⟨t, h1, h2⟩ := m.ki.to x hx
          exact ⟨t, h1, by omega⟩
        · rw [List.mem_singleton.mp hx]
          exact ⟨xs.length, rfl, by omega⟩ }
    to := fun row h e he => by
      obtain ⟨t, h1, h2⟩ := m.to row h e he
      exact ⟨t, h1, by rw [ll]; omega⟩
    le := by
      have := m.le
      rw [ll]
      omega
    n1 := m.n1
    n2 := m.n2
    n3 := m.n3
    f1 := m.f1
    f2 := m.f2
    f3 := m.f3
    f4 := m.f4
    f5 := m.f5 }
/-- the row and its end are laid behind -/
theorem MI.push {d : Addr} {row : Row} {bb : Bool} {H2 : Hp} (m : MI P w K rs Rs H0 r dx sc wl gl sl kn ds ways good H xs) (hd : H d = some (.dT row)) (hrow : ∀ e ∈ row, ∃ t : Nat, e.2 = V.int t ∧ t < xs.length) (hlt : ways.length < xs.length)
    (s : Same (upd H wl (.lst (ds ++ [.ref d]))) H2) : MI P w K rs Rs H0 r dx sc wl gl sl kn (ds ++ [.ref d]) (ways ++ [row]) (good ++ [bb]) (upd H2 gl (.lst (good.map V.bl ++ [.bl bb]))) xs := by
  have g1 : (upd H wl (.lst (ds ++ [.ref d]))) gl = some (.lst (good.map V.bl)) := by rw [upd_ne (Ne.symm m.n1)]; exact m.hgl
  have tk : TK H (upd H2 gl (.lst (good.map V.bl ++ [.bl bb]))) := ((TK.lst m.hwl).trans s.tk).trans (TK.lst (s _ _ g1))
  have hsl : (upd H wl (.lst (ds ++ [.ref d]))) sl = some (.lst (xs.map fun x => V.ref x.2.1)) := by rw [upd_ne m.n2]; exact m.ki.hsl
  have hkn : (upd H wl (.lst (ds ++ [.ref d]))) kn = some (NkO P w kn xs) := by rw [upd_ne (ne_of m.ki.hkn m.hwl (fun z => nomatch z))]; exact m.ki.hkn
  have hob : (upd H wl (.lst (ds ++ [.ref d]))) r = some (.ins (He.ga K "Machine") dx (machF sc wl gl)) := by rw [upd_ne (ne_of m.ob m.hwl (fun z => nomatch z))]; exact m.ob
  have dsn : Dicts (upd H wl (.lst (ds ++ [.ref d]))) (ds ++ [.ref d]) (ways ++ [row]) := paired_snoc ⟨d, rfl, by rw [upd_ne (ne_of hd m.hwl (fun z => nomatch z))]; exact hd⟩ (m.dicts.ne (o := .lst (ds ++ [.ref d])) m.hwl fun r z => nomatch z)
  exact {
    same := ((m.same.mut m.f2).trans s).mut m.f3
    ob := by rw [upd_ne (ne_of (s _ _ hob) (s _ _ g1) (fun z => nomatch z))]; exact s _ _ hob
    hwl := by rw [upd_ne m.n1]; exact s _ _ upd_same
    dicts := Dicts.ne (Dicts.mono dsn fun d r q => s _ _ q) (s _ _ g1) fun r z => nomatch z
    hgl := by rw [upd_same, List.map_append]; rfl
    len := by rw [List.length_append, List.length_append, m.len]; rfl
    ki := { hsl := by rw [upd_ne m.n3]; exact s _ _ hsl, hkn := by rw [upd_ne (ne_of (s _ _ hkn) (s _ _ g1) (fun z => nomatch z))]; exact s _ _ hkn, keys := m.ki.keys.mono tk, leg := m.ki.leg, nodup := m.ki.nodup, to := m.ki.to }
    to := fun row2 h e he => by
      rcases List.mem_append.mp h with h | h
      · exact m.to row2 h e he
      · rw [List.mem_singleton.mp h] at he
        exact hrow e he
    le := by rw [List.length_append]; exact hlt
    n1 := m.n1
    n2 := m.n2
    n3 := m.n3
    f1 := m.f1
    f2 := m.f2
    f3 := m.f3
    f4 := m.f4
    f5 := m.f5 }
end
section
variable {P : Program} {w : World} {K : PySem.W.Frag} {mg : Str → Option Value} {base : Heap}
def spMachine (K : PySem.W.Frag) : Sp := fun vs H Q _ => ∃ (H0 : Hp) (r dx sc : Addr) (rs : Rng) (Rs : List RK), vs = [.ref r, .ref sc] ∧ H0 r = none ∧ ScoreR K H0 sc rs Rs ∧ Fits rs Rs ∧ Same H0 H ∧ H r = some (.ins (He.ga K "Machine") dx []) ∧
  ∀ ways good H', McOk ways good → Same H0 H' → MachR K H' r rs ways good → Q .non H'
theorem mk_Machine (T : Top K mg base) : KOk P w K mg base "Machine" 4 ["self", "score"] (spMachine K) := by
  have G_first_state := ok_first_state (P := P) (w := w) T
  have G_columns := ok_columns (P := P) (w := w) T
  have G_next_state := ok_next_state (P := P) (w := w) T
  have G_ends_well := ok_ends_well (P := P) (w := w) T
  obtain ⟨fd, F⟩ := T.D_Machine_init
  refine ⟨_, fd, F.ok sc_Machine_init (fun vs H Q E h => ?_) (fun cdv A outer s H vs Q E hr h => ?_), F.bindsN fun _ _ _ _ _ _ us hl => match us, hl with | [_, _], _ => rfl, T.k_Machine, T.g_Machine⟩
  · obtain ⟨H0, r, dx, sc, rs, Rs, rfl, _⟩ := h
    rfl
  · obtain ⟨H0, r, dx, sc, rs, Rs, rfl, f1, hS, hf, S00, hr0, q⟩ := h
-- slots: 0 self 1 score 2 states 3 known 4 state 5 row 6 column 7 behind
-- needs: first_state columns next_state ends_well
    refine ⟨_, PSs.nox (pss_cons (ps_fld (pv 0) (pv 1) rfl)
      (pss_cons (ps_fld (pv 0) (pe_lst pa_nil) rfl)
      (pss_cons (ps_fld (pv 0) (pe_lst pa_nil) rfl)
      (pss_cons (ps_set (i := 2) sc_Machine_init.nd rfl (by first | exact Or.inl rfl | exact Or.inr rfl) (pe_lst (pa_cons (dcall G_first_state (hr.mono (by decide)) (by rfl) (pa_cons (pv 1) pa_nil)) pa_nil)))
      (pss_cons (ps_set (i := 3) sc_Machine_init.nd rfl (by first | exact Or.inl rfl | exact Or.inr rfl) (pe_nkdisp hr.units (pe_ix ix_list (pv 2) pe_int (fun _ _ => rfl)) pe_int))
      (pss_one (ps_while PassesOwn.never (pt_cmpR op_lt (pe_callB call_len (by rfl) T.b_len PySem.boot_len (pa_cons (pe_fld (pv 0) rfl) pa_nil)) (pe_callB call_len (by rfl) T.b_len PySem.boot_len (pa_cons (pv 2) pa_nil)) (nomark _))
        (pss_cons (ps_set (i := 4) sc_Machine_init.nd rfl (by first | exact Or.inl rfl | exact Or.inr rfl) (pe_ix ix_list (pv 2) (pe_callB call_len (by rfl) T.b_len PySem.boot_len (pa_cons (pe_fld (pv 0) rfl) pa_nil)) (fun _ _ => rfl)))
        (pss_cons (ps_set (i := 5) sc_Machine_init.nd rfl (by first | exact Or.inl rfl | exact Or.inr rfl) pe_dnewT)
        (pss_cons (ps_for PassesOwn.never rfl (pi_list (dcall G_columns (hr.mono (by decide)) (by rfl) (pa_cons (pv 1) pa_nil))) (pg_name (i := 6) sc_Machine_init.nd rfl (by first | exact Or.inl rfl | exact Or.inr rfl))
          (pss_cons (ps_set (i := 7) sc_Machine_init.nd rfl (by first | exact Or.inl rfl | exact Or.inr rfl) (dcall G_next_state (hr.mono (by decide)) (by rfl) (pa_cons (pv 1) (pa_cons (pv 4) (pa_cons (pv 6) pa_nil)))))
          (pss_cons (ps_if (pt_cmpR op_isN (pv 7) pe_non (nomark _))
            (pss_one ps_continue)
            pss_nil)
          (pss_cons (ps_if (pt_cmpR (op_notIn_nk hr.units) (pv 7) (pv 3) (by rfl))
            (pss_cons (ps_nkput hr.units (pv 3) (pv 7) (pe_callB call_len (by rfl) T.b_len PySem.boot_len (pa_cons (pv 2) pa_nil)) rfl)
            (pss_one (ps_expr (pe_bm PySem.F.plainAttrs_list PySem.F.slot_list_append PySem.F.type_list_append mt_append (pv 2) (pa_cons (pv 7) pa_nil)))))
            pss_nil)
          (pss_one (ps_dput (hu_of hr) (pv 5) (pv 6) (pe_nkget hr.units (pv 3) (pv 7) (fun _ _ => rfl)) rfl))))))
        (pss_cons (ps_expr (pe_bm PySem.F.plainAttrs_list PySem.F.slot_list_append PySem.F.type_list_append mt_append (pe_fld (pv 0) rfl) (pa_cons (pv 5) pa_nil)))
        (pss_one (ps_expr (pe_bm PySem.F.plainAttrs_list PySem.F.slot_list_append PySem.F.type_list_append mt_append (pe_fld (pv 0) rfl) (pa_cons (dcall G_ends_well (hr.mono (by decide)) (by rfl) (pa_cons (pv 1) (pa_cons (pv 4) pa_nil))) pa_nil))))))))))))))), ?_⟩
    refine ⟨_, rfl, _, rfl, r, _, dx, _, rfl, hr0, T.c_Machine, T.n_Machine_score, by decide, ?_⟩
    have S1 : Same H0 (upd H r (.ins (He.ga K "Machine") dx (putF "score" (.ref sc) []))) := S00.mut f1
    refine ⟨Nat.zero_le _, fun wl nwl => ?_⟩
    have S2 := S1.trans (Same.new (o := .lst []) nwl)
    have e1 : r ≠ wl := ne_of_none upd_same nwl
    refine ⟨_, rfl, r, _, dx, _, rfl, by rw [upd_ne e1]; exact upd_same, T.c_Machine, T.n_Machine_ways, Nat.lt_of_le_of_lt (flen (Nat.le_refl 0)) (by decide), ?_⟩
    have S3 := S2.mut (o := .ins (He.ga K "Machine") dx (putF "ways" (.ref wl) (putF "score" (.ref sc) []))) f1
    refine ⟨Nat.zero_le _, fun gl ngl => ?_⟩
    have S4 := S3.trans (Same.new (o := .lst []) ngl)
    have e2 : r ≠ gl := ne_of_none upd_same ngl
    have hwl3 := (show upd (upd (upd H r (.ins (He.ga K "Machine") dx (putF "score" (.ref sc) []))) wl (.lst [])) r (.ins (He.ga K "Machine") dx (putF "ways" (.ref wl) (putF "score" (.ref sc) []))) wl = some (.lst []) by rw [upd_ne (Ne.symm e1)]; exact upd_same)
    have n1 : wl ≠ gl := ne_of_none hwl3 ngl
    refine ⟨_, rfl, r, _, dx, _, rfl, by rw [upd_ne e2]; exact upd_same, T.c_Machine, T.n_Machine_good, Nat.lt_of_le_of_lt (flen (flen (Nat.le_refl 0))) (by decide), ?_⟩
    have S5 := S4.mut (o := .ins (He.ga K "Machine") dx (machF sc wl gl)) f1
    generalize hH5 : upd (upd (upd (upd (upd H r (.ins (He.ga K "Machine") dx (putF "score" (.ref sc) []))) wl (.lst [])) r (.ins (He.ga K "Machine") dx (putF "ways" (.ref wl) (putF "score" (.ref sc) [])))) gl (.lst [])) r (.ins (He.ga K "Machine") dx (machF sc wl gl)) = H5 at S5
    have ob5 : H5 r = some (.ins (He.ga K "Machine") dx (machF sc wl gl)) := by rw [← hH5]; exact upd_same
    have wl5 : H5 wl = some (.lst []) := by rw [← hH5, upd_ne (Ne.symm e1), upd_ne n1]; exact hwl3
    have gl5 : H5 gl = some (.lst []) := by rw [← hH5, upd_ne (Ne.symm e2)]; exact upd_same
    have f2 : H0 wl = none := S1.free nwl
    have f3 : H0 gl = none := S3.free ngl
    have GOAL5 : upd (upd (upd (upd (upd H r (.ins (He.ga K "Machine") dx (putF "score" (.ref sc) []))) wl (.lst [])) r (.ins (He.ga K "Machine") dx (putF "ways" (.ref wl) (putF "score" (.ref sc) [])))) gl (.lst [])) r (.ins (He.ga K "Machine") dx (putF "good" (.ref gl) (putF "ways" (.ref wl) (putF "score" (.ref sc) [])))) = H5 := hH5
    rw [GOAL5]
    refine ⟨_, rfl, sc, rs, Rs, rfl, hS.mono S5, hf, fun b0 k0 H6 S6 hst0 hleg0 => ⟨by show 1 ≤ sizeLine; decide, fun sl nsl => ?_⟩⟩
    have n2 : sl ≠ wl := Ne.symm (ne_of_none (S6 _ _ wl5) nsl)
    have n3 : sl ≠ gl := Ne.symm (ne_of_none (S6 _ _ gl5) nsl)
    have S7 := S6.trans (Same.new (o := .lst [.ref b0]) nsl)
    refine fun kn nkn => ?_
    have S8 := S7.trans (Same.new (o := NkO P w kn []) nkn)
    have hsk : sl ≠ kn := ne_of_none upd_same nkn
    refine ⟨_, rfl, sl, _, _, _, rfl, rfl, sql (by rw [upd_ne hsk]; exact upd_same), atI_nat (j := 0) rfl, k0, b0, rfl, upd_same, hst0.mono ((Same.new nsl).trans (Same.new nkn)).tk, ?_⟩
    have S9 : Same H5 (upd (upd (upd H6 sl (.lst [.ref b0])) kn (NkO P w kn [])) kn (NkO P w kn [(k0, b0, .int 0)])) := S8.mut (S7.free nkn)
    generalize hH9 : upd (upd (upd H6 sl (.lst [.ref b0])) kn (NkO P w kn [])) kn (NkO P w kn [(k0, b0, .int 0)]) = H9 at S9
    have hGoal9 := hH9
    have M0 : MI P w K rs Rs H0 r dx sc wl gl sl kn [] [] [] H9 [(k0, b0, .int (0 : Nat))] := {
      same := S5.trans S9
      ob := S9 _ _ ob5
      hwl := S9 _ _ wl5
      dicts := .nil
      hgl := S9 _ _ gl5
      len := rfl
      ki := {
        hsl := by rw [← hH9, upd_ne hsk, upd_ne hsk]; exact upd_same
        hkn := by rw [← hH9]; exact upd_same
        keys := fun x hx => by
          rw [List.mem_singleton.mp hx, ← hH9]
          exact hst0.mono (((Same.new nsl).trans (Same.new nkn)).tk.trans (TK.nk upd_same))
        leg := fun x hx => by rw [List.mem_singleton.mp hx]; exact hleg0
        nodup := by simp
        to := fun x hx => by
          rw [List.mem_singleton.mp hx]
          exact ⟨0, rfl, by show 0 < 1; decide⟩ }
      to := fun row h => nomatch h
      le := Nat.zero_le _
      n1 := n1
      n2 := n2
      n3 := n3
      f1 := f1
      f2 := f2
      f3 := f3
      f4 := S5.free (S6.free nsl)
      f5 := S5.free (S7.free nkn) }
    rw [← hH9] at M0
    refine ⟨fun m σ H' => ∃ (x4 x5 x6 x7 : Option V) (ds : List V) (ways : List Row) (good : List Bool) (xs : KnX), σ = [some (.ref r), some (.ref sc), some (.ref sl), some (.ref kn), x4, x5, x6, x7] ∧ MI P w K rs Rs H0 r dx sc wl gl sl kn ds ways good H' xs ∧ 0 < xs.length ∧ m + ways.length = 1000,
      ⟨1000, none, none, none, none, [], [], [], [(k0, b0, .int (0 : Nat))], rfl, M0, by show 0 < 1; decide, rfl⟩, ?_⟩
    rintro m σ H' ⟨x4, x5, x6, x7, ds, ways, good, xs, rfl, M, hpos, hm⟩
    have hfew := M.ki.few hf
    have lds := M.dicts.len
    refine ⟨_, rfl, r, _, dx, _, _, rfl, M.ob, T.c_Machine, T.n_Machine_ways, rfl, _, _, rfl, .inl ⟨_, sql M.hwl, rfl⟩, _, rfl, _, _, rfl, .inl ⟨_, sql M.ki.hsl, rfl⟩, _, _, rfl, rfl, _, rfl, ?_⟩
    by_cases hlt : ways.length < xs.length
    · refine iteD (by rw [List.length_map, lds]; omega) ?_
      refine ⟨fun σ' H' => ∃ m', m' < m ∧ (∃ (x4 x5 x6 x7 : Option V) (ds : List V) (ways : List Row) (good : List Bool) (xs : KnX), σ' = [some (.ref r), some (.ref sc), some (.ref sl), some (.ref kn), x4, x5, x6, x7] ∧ MI P w K rs Rs H0 r dx sc wl gl sl kn ds ways good H' xs ∧ 0 < xs.length ∧ m' + ways.length = 1000), fun _ _ h => h, ?_⟩
      -- state = states[len(self.ways)]
      have hxi := List.getElem?_eq_getElem hlt
      have hxm := List.mem_of_getElem? hxi
      obtain ⟨⟨k, sa, sv⟩, hx⟩ : ∃ x, x = xs[ways.length] := ⟨_, rfl⟩
      rw [← hx] at hxi hxm
      have hst : StIs H' k sa := M.ki.keys _ hxm
      have hleg : Leg rs Rs k := M.ki.leg _ hxm
      refine ⟨_, rfl, _, rfl, r, _, dx, _, _, rfl, M.ob, T.c_Machine, T.n_Machine_ways, rfl, _, _, rfl, .inl ⟨_, sql M.hwl, rfl⟩, sl, _, _, .ref sa, rfl, rfl, sql M.ki.hsl, atI_nat (j := ds.length) (by rw [lds, List.getElem?_map, hxi]; rfl), ?_⟩
      refine fun d nd => ?_
      have SD : Same H' (upd H' d (.dT [])) := Same.new nd
      have h0d : H0 d = none := M.same.free nd
      have hnd : ∀ a, V.ref a ∈ ds → a ≠ d := fun a ha => by
        obtain ⟨rr, hr2⟩ := M.dicts.mem a ha
        exact ne_of_none hr2 nd
      have MD := M.mono SD
      refine ⟨_, rfl, sc, rs, rfl, (hS.mono MD.same).sc, hf.small, fun p H1 N => ?_⟩
      obtain ⟨SN, np, pxs, hp, tp⟩ := N
      have M1 := MD.mono SN
      have psl : sl ≠ p := ne_of_none MD.ki.hsl np
      have pkn : kn ≠ p := ne_of_none MD.ki.hkn np
      have pd : d ≠ p := ne_of_none upd_same np
      have hsm := small_cols hf.small
      refine ⟨p, rfl, ⟨_, sql hp⟩, for_list (K := K) (a := p) (xs := pxs) (fun j σ' H2 => ∃ (y6 y7 : Option V) (XS : KnX) (row : Row), σ' = [some (.ref r), some (.ref sc), some (.ref sl), some (.ref kn), some (.ref sa), some (.ref d), y6, y7] ∧ MI P w K rs Rs H0 r dx sc wl gl sl kn ds ways good H2 XS ∧ H2 p = some (.lst pxs) ∧
          Tups H2 pxs (cV (cols rs)) ∧ H2 d = some (.dT row) ∧ (∀ e ∈ row, ∃ t : Nat, e.2 = V.int t ∧ t < XS.length) ∧ row.length ≤ j ∧ StIs H2 k sa ∧ xs.length ≤ XS.length)
        ⟨x6, x7, xs, [], rfl, M1, hp, tp, SN _ _ upd_same, (fun e h => nomatch h), Nat.le_refl _, hst.mono (SD.trans SN).tk, Nat.le_refl _⟩ (fun j σ' H2 _ ⟨_, _, _, _, _, _, h, _⟩ => sql h) ?_ ?_⟩
      · rintro j v σ' H2 hv ⟨y6, y7, XS, row, rfl, M2, hp2, tp2, hd2, hrow, hrl, hst2, hge⟩
        obtain ⟨ca, cc, rfl, hcc, hca⟩ := tp2.getV hv
        obtain ⟨c, hcj, rfl⟩ : ∃ c, (cols rs)[j]? = some c ∧ cc = iV c := by
          unfold cV at hcc
          rw [List.getElem?_map] at hcc
          cases e : (cols rs)[j]? with
          | none => rw [e] at hcc; cases hcc
          | some c => rw [e] at hcc; exact ⟨c, rfl, (Option.some.inj hcc).symm⟩
        have hcm := List.mem_of_getElem? hcj
        have hj : j < (cols rs).length := (List.getElem?_eq_some_iff.mp hcj).1
        refine ⟨_, rfl, _, rfl, _, rfl, sc, sa, ca, rs, Rs, k, c, rfl, hS.mono M2.same, hf, hst2, hleg, hca, hcm, fun v H3 S3 hv3 => ?_⟩
        have M3 := M2.mono S3
        have hp3 := S3 _ _ hp2
        have tp3 := tp2.mono S3.tk
        have hd3 := S3 _ _ hd2
        have hst3 := hst2.mono S3.tk
        have hca3 := S3 _ _ hca
        have hfew3 := M3.ki.few hf
        rcases hv3 with rfl | ⟨b, k2, rfl, hb, hl2⟩
        · exact ⟨_, rfl, rfl, _, rfl, iteD rfl ⟨some (.ref ca), some .non, XS, row, rfl, M3, hp3, tp3, hd3, hrow, by omega, hst3, hge⟩⟩
        · refine ⟨_, rfl, rfl, _, rfl, iteND (fun z => nomatch z) ?_⟩
          refine ⟨_, rfl, _, rfl, kn, XS, k2, b, rfl, rfl, M3.ki.hkn, M3.ki.keys, hb, _, rfl, ?_⟩
          cases hval : valS XS k2 with
          | none =>
            refine iteY rfl ?_
            have lX : (XS.map fun x => V.ref x.2.1).length = XS.length := List.length_map ..
            refine ⟨_, rfl, _, _, rfl, .inl ⟨_, sql M3.ki.hsl, rfl⟩, ?_⟩
            rw [lX]
            refine ⟨_, rfl, _, rfl, kn, XS, k2, b, rfl, rfl, M3.ki.hkn, M3.ki.keys, hb, hval, szl (by omega), ?_⟩
            have M4 := M3.add hb hl2 hval
            have hfew4 := M4.ki.few hf
            have ll : (XS ++ [(k2, b, V.int (XS.length : Nat))]).length = XS.length + 1 := by rw [List.length_append]; rfl
            have hsk : (upd H3 kn (NkO P w kn (XS ++ [(k2, b, .int (XS.length : Nat))]))) sl = some (.lst (XS.map fun x => V.ref x.2.1)) := by
              rw [upd_ne (ne_of M3.ki.hsl M3.ki.hkn (fun z => nomatch z))]
              exact M3.ki.hsl
            have tk : TK H3 (upd (upd H3 kn (NkO P w kn (XS ++ [(k2, b, .int (XS.length : Nat))]))) sl (.lst ((XS.map fun x => V.ref x.2.1) ++ [.ref b]))) := (TK.nk M3.ki.hkn).trans (TK.lst hsk)
            have hp4 : (upd (upd H3 kn (NkO P w kn (XS ++ [(k2, b, .int (XS.length : Nat))]))) sl (.lst ((XS.map fun x => V.ref x.2.1) ++ [.ref b]))) p = some (.lst pxs) := by
              rw [upd_ne (Ne.symm psl), upd_ne (Ne.symm pkn)]
              exact hp3
            have hd4 : (upd (upd H3 kn (NkO P w kn (XS ++ [(k2, b, .int (XS.length : Nat))]))) sl (.lst ((XS.map fun x => V.ref x.2.1) ++ [.ref b]))) d = some (.dT row) := by
              rw [upd_ne (ne_of hd3 M3.ki.hsl (fun z => nomatch z)), upd_ne (ne_of hd3 M3.ki.hkn (fun z => nomatch z))]
              exact hd3
            refine ⟨_, rfl, .inl ⟨rfl, _, sql hsk⟩, _, rfl, sl, _, .ref b, rfl, rfl, hsk, szl (by omega), ?_⟩
            refine ⟨_, rfl, _, rfl, kn, (XS ++ [(k2, b, V.int (XS.length : Nat))]), k2, b, .int (XS.length : Nat), rfl, rfl, M4.ki.hkn, M4.ki.keys, hb.mono tk, valS_snoc hval, _, rfl, _, rfl, d, _, rfl, DPut.t (k := kC c) hd4 (by rw [kC_V]; exact tk _ _ hca3) (szl (by omega)), ?_⟩
            exact ⟨some (.ref ca), some (.ref b), (XS ++ [(k2, b, V.int (XS.length : Nat))]), putK row (kC c) (.int (XS.length : Nat)), rfl, M4.upd_d hd4 hnd h0d, by rw [upd_ne (Ne.symm pd)]; exact hp4, (tp3.mono tk).mono (TK.dT hd4), upd_same, put_to (fun e he => by obtain ⟨t, h1, h2⟩ := hrow e he; exact ⟨t, h1, by omega⟩) (by omega), Nat.le_trans (put_len ..) (by omega), (hst3.mono tk).mono (TK.dT hd4), by omega⟩
          | some v =>
            refine iteE rfl ?_
            obtain ⟨x, hxm2, hxv⟩ := valS_some hval
            obtain ⟨t, ht1, ht2⟩ := M3.ki.to x hxm2
            have hval2 : valS XS k2 = some (.int t) := by rw [hval, ← hxv, ht1]
            refine ⟨_, rfl, _, rfl, kn, XS, k2, b, .int t, rfl, rfl, M3.ki.hkn, M3.ki.keys, hb, hval2, _, rfl, _, rfl, d, _, rfl, DPut.t (k := kC c) hd3 (by rw [kC_V]; exact hca3) (szl (by omega)), ?_⟩
            exact ⟨some (.ref ca), some (.ref b), XS, putK row (kC c) (.int t), rfl, M3.upd_d hd3 hnd h0d, by rw [upd_ne (Ne.symm pd)]; exact hp3, (tp3).mono (TK.dT hd3), upd_same, put_to hrow ht2, Nat.le_trans (put_len ..) (by omega), (hst3).mono (TK.dT hd3), hge⟩
      · rintro σ' H2 ⟨y6, y7, XS, row, rfl, M2, hp2, tp2, hd2, hrow, hrl, hst2, hge⟩
        have hfew2 := M2.ki.few hf
        have hgl2 := M2.len
        refine ⟨_, rfl, r, _, dx, _, _, rfl, M2.ob, T.c_Machine, T.n_Machine_ways, rfl, .inl ⟨rfl, _, sql M2.hwl⟩, _, rfl, wl, ds, .ref d, rfl, rfl, M2.hwl, szl (by omega), ?_⟩
        have hobW : (upd H2 wl (.lst (ds ++ [.ref d]))) r = some (.ins (He.ga K "Machine") dx (machF sc wl gl)) := by rw [upd_ne (ne_of M2.ob M2.hwl (fun z => nomatch z))]; exact M2.ob
        have hglW : (upd H2 wl (.lst (ds ++ [.ref d]))) gl = some (.lst (good.map V.bl)) := by rw [upd_ne (Ne.symm M2.n1)]; exact M2.hgl
        refine ⟨_, rfl, r, _, dx, _, _, rfl, hobW, T.c_Machine, T.n_Machine_good, rfl, .inl ⟨rfl, _, sql hglW⟩, _, rfl, _, rfl, sc, sa, rs, Rs, k, rfl, hS.mono (M2.same.mut M2.f2), hf, hst2.mono (TK.lst M2.hwl), hleg, fun bb H7 S77 => ?_⟩
        refine ⟨gl, _, .bl bb, rfl, rfl, S77 _ _ hglW, szl (by rw [List.length_map]; omega), ?_⟩
        exact ⟨m - 1, by omega, some (.ref sa), some (.ref d), y6, y7, ds ++ [.ref d], ways ++ [row], good ++ [bb], XS, rfl, M2.push hd2 hrow (by omega) S77, by omega, by rw [List.length_append, List.length_singleton]; omega⟩
    · have el : ways.length = xs.length := by have := M.le; omega
      refine iteND (by rw [List.length_map, lds]; omega) ?_
      have hto : ∀ row ∈ ways, ∀ e ∈ row, ∃ t : Nat, e.2 = V.int t ∧ t < ways.length := fun row h e he => by
        obtain ⟨t, h1, h2⟩ := M.to row h e he
        exact ⟨t, h1, by omega⟩
      have MO : McOk ways good := ⟨M.len, by omega, by omega, hto⟩
      refine q ways good H' MO M.same ⟨dx, _, sc, wl, gl, M.ob, rfl, rfl, rfl, rfl, rfl, rfl, (hS.mono M.same).sc, ⟨ds, M.hwl, M.dicts⟩, M.hgl⟩
end
end Fv
set_option Elab.async false
set_option linter.all false
set_option maxRecDepth 100000
set_option maxHeartbeats 4000000
/-! The law's own draws. -/
namespace Fv
open PySem PySem.Spec PyProof.Rows L2 _root_.TL
theorem at_in {xs : List Int} {i : Int} (h0 : 0 ≤ i) (h1 : i < (xs.length : Nat)) : ∃ n ∈ xs, atI (xs.map V.int) i = some (.int n) := by
  have h2 : i.toNat < xs.length := by omega
  refine ⟨xs[i.toNat], List.getElem_mem h2, ?_⟩
  have e : ((i.toNat : Nat) : Int) = i := by omega
  have h := atI_nat (int_get (List.getElem?_eq_getElem h2))
  rw [e] at h
  exact h
theorem lt0 {j : Int} (h : decide (0 < j) = true) : 0 < j := of_decide_eq_true h
/-- a new list of whole numbers -/
structure NewI (H H' : Hp) (p : Addr) (ns : List Int) : Prop where
  same : Same H H'
  new : H p = none
  at_ : H' p = some (.lst (ns.map V.int))
def Drawn (ns : List Int) : Prop := ∀ x ∈ ns, 0 ≤ x ∧ x < 400000
section
variable {P : Program} {w : World} {K : PySem.W.Frag} {mg : Str → Option Value} {base : Heap}
def sp_draws : Sp := fun vs H Q _ => ∃ (c : Int) (n : Nat), vs = [.int c, .int n] ∧ n ≤ 200 ∧ ∀ p H' ns, NewI H H' p ns → ns.length = n → Drawn ns → Q (.ref p) H'
theorem ok__law_draws (T : Top K mg base) : DOk P w K mg base "_law_draws" 1 ["_law_cell", "_law_many"] sp_draws := by
  obtain ⟨fd, F⟩ := T.D__law_draws
  refine ⟨fd, F.ok sc__law_draws (fun vs H Q E h => ?_) (fun cdv A outer s H vs Q E hr h => ?_), F.bindsN fun _ _ _ _ _ _ us hl => match us, hl with | [_, _], _ => rfl, F.kp, T.g__law_draws⟩
  · obtain ⟨c, n, rfl, _⟩ := h
    rfl
  · obtain ⟨c, n, rfl, hn, q⟩ := h
-- slots: 0 _law_cell 1 _law_many 2 _law_digits 3 _law_rest 4 _law_seed 5 _law_found 6 _law_k
-- needs: 
    refine ⟨_, PSs.nox (pss_cons (ps_set (i := 2) sc__law_draws.nd rfl (by first | exact Or.inl rfl | exact Or.inr rfl) (pe_cmpR op_eq (pe_op op_mod (pe_op op_fdiv (pv 0) pe_int) pe_int) pe_int (nomark _)))
      (pss_cons (ps_set (i := 3) sc__law_draws.nd rfl (by first | exact Or.inl rfl | exact Or.inr rfl) (pe_op op_fdiv (pv 0) pe_int))
      (pss_cons (ps_set (i := 4) sc__law_draws.nd rfl (by first | exact Or.inl rfl | exact Or.inr rfl) (pe_op op_add (pe_op op_mod (pv 0) pe_int) pe_int))
      (pss_cons (ps_set (i := 5) sc__law_draws.nd rfl (by first | exact Or.inl rfl | exact Or.inr rfl) (pe_lst pa_nil))
      (pss_cons (ps_for PassesOwn.never rfl (pi_rangeW (by rfl) T.b_range (pa_cons pe_int (pa_cons (pe_op op_add (pv 1) pe_int) pa_nil))) (pg_name (i := 6) sc__law_draws.nd rfl (by first | exact Or.inl rfl | exact Or.inr rfl))
        (pss_one (ps_if (PW.pt (pw_and (pt_val (pv 2)) (pw_and1 (pt_cmpR op_notIn_seq (pv 3) (pe_lst (pa_cons pe_int (pa_cons (pe_un un_neg pe_int) pa_nil))) (by rfl)))))
          (pss_cons (ps_expr (pe_bm PySem.F.plainAttrs_list PySem.F.slot_list_append PySem.F.type_list_append mt_append (pv 5) (pa_cons (pe_op op_mod (pv 3) pe_int) pa_nil)))
          (pss_one (ps_set (i := 3) sc__law_draws.nd rfl (by first | exact Or.inl rfl | exact Or.inr rfl) (pe_op op_fdiv (pv 3) pe_int))))
          (pss_cons (ps_set (i := 4) sc__law_draws.nd rfl (by first | exact Or.inl rfl | exact Or.inr rfl) (pe_op op_add (pe_op op_mod (pe_op op_mul (pe_op op_mod (pe_op op_add (pe_op op_mul (pv 4) pe_int) (pv 6)) pe_int) (pe_op op_add (pv 4) (pe_op op_mul pe_int (pv 6)))) pe_int) pe_int))
          (pss_one (ps_expr (pe_bm PySem.F.plainAttrs_list PySem.F.slot_list_append PySem.F.type_list_append mt_append (pv 5) (pa_cons (pe_op op_fdiv (pv 4) pe_int) pa_nil))))))))
      (pss_one (ps_ret (pv 5)))))))), ?_⟩
    refine ⟨_, rfl, _, _, rfl, rfl, ⟨by decide, by decide⟩, _, _, rfl, rfl, (lt0 (by decide)), rfl, ?_⟩
    refine ⟨_, rfl, _, _, rfl, rfl, ⟨by decide, by decide⟩, ?_⟩
    refine ⟨_, rfl, _, _, rfl, rfl, (lt0 (by decide)), _, _, rfl, rfl, ?_⟩
    refine ⟨Nat.zero_le _, fun p np => ?_⟩
    have S0 : Same H (upd H p (.lst [])) := Same.new np
    refine ⟨_, rfl, _, _, rfl, rfl, 1, (n : Int) + 1, rfl, ?_⟩
    have en : ((n : Int) + 1 - 1).toNat = n := by omega
    rw [en]
    refine for_range (lo := 1) (n := n) (fun i σ H' => ∃ (dg : Bool) (rest seed : Int) (x6 : Option V) (ns : List Int), σ = [some (.int c), some (.int n), some (.bl dg), some (.int rest), some (.int seed), some (.ref p), x6] ∧ Same H H' ∧ H' p = some (.lst (ns.map V.int)) ∧ ns.length = i ∧ Drawn ns ∧ 1 ≤ seed ∧ seed ≤ 1999993)
      ⟨_, _, _, none, [], rfl, S0, upd_same, rfl, (fun x hx => nomatch hx), by omega, by omega⟩ ?_ ?_
    · rintro i σ H' hi ⟨dg, rest, seed, x6, ns, rfl, SI, hp, hl, hd, hs1, hs2⟩
      have ll : (ns.map V.int).length = i := by rw [List.length_map, hl]
      have snoc : ∀ x : Int, 0 ≤ x → x < 400000 → Drawn (ns ++ [x]) := fun x h1 h2 y hy => by
        rcases List.mem_append.mp hy with hy | hy
        · exact hd y hy
        · rw [List.mem_singleton.mp hy]
          exact ⟨h1, h2⟩
      cases dg with
      | false =>
        refine ⟨_, rfl, false, rfl, iteF (iteF ?_)⟩
        have hq : ∀ z : Int, 1 ≤ z % 1999993 + 1 ∧ z % 1999993 + 1 ≤ 1999993 := fun z => by omega
        refine ⟨_, rfl, _, _, rfl, rfl, .inl ⟨by omega, by omega⟩, _, rfl, _, _, rfl, rfl, _, _, rfl, rfl, (lt0 (by decide)), _, rfl, _, rfl, _, _, rfl, rfl, .inl ⟨by decide, by decide⟩, _, _, rfl, rfl, _, _, rfl, rfl, .inl ⟨by omega, by omega⟩, _, _, rfl, rfl, (lt0 (by decide)), _, _, rfl, rfl, ?_⟩
        generalize hz : (seed * 69069 + (1 + (i : Nat) : Int)) % 1999993 * (seed + 3 * (1 + (i : Nat) : Int)) = z
        obtain ⟨g1, g2⟩ := hq z
        refine ⟨_, rfl, .inl ⟨rfl, _, sql (hp)⟩, _, rfl, _, _, rfl, rfl, ⟨by decide, by decide⟩, p, _, _, rfl, rfl, (hp), szl (by omega), ?_⟩
        refine ⟨false, rest, _, some (.int (1 + (i : Nat))), ns ++ [(z % 1999993 + 1) / 5], rfl, SI.mut np, ?_, ?_, snoc _ (by omega) (by omega), g1, g2⟩
        · rw [upd_same, List.map_append]
          rfl
        · rw [List.length_append, hl]
          rfl
      | true =>
        refine ⟨_, rfl, true, rfl, iteT ?_⟩
        refine ⟨_, rfl, _, rfl, by show 2 ≤ sizeLine; decide, fun lp nlp => ?_⟩
        have S1 : Same H' (upd H' lp (.lst [.int 0, .int (-1)])) := Same.new nlp
        refine ⟨lp, _, rfl, .inl (sql upd_same), rfl, rfl, _, rfl, ite2 (fun _ => ?_) (fun _ => ?_)⟩
        · refine ⟨_, rfl, .inl ⟨rfl, _, sql (S1 _ _ hp)⟩, _, rfl, _, _, rfl, rfl, (lt0 (by decide)), p, _, _, rfl, rfl, S1 _ _ hp, szl (by omega), ?_⟩
          refine ⟨_, rfl, _, _, rfl, rfl, ⟨by decide, by decide⟩, true, _, seed, some (.int (1 + (i : Nat))), ns ++ [rest % 399999], rfl, (SI.trans S1).mut np, ?_, ?_, snoc _ (by omega) (by omega), hs1, hs2⟩
          · rw [upd_same, List.map_append]
            rfl
          · rw [List.length_append, hl]
            rfl
        · have hq : ∀ z : Int, 1 ≤ z % 1999993 + 1 ∧ z % 1999993 + 1 ≤ 1999993 := fun z => by omega
          refine ⟨_, rfl, _, _, rfl, rfl, .inl ⟨by omega, by omega⟩, _, rfl, _, _, rfl, rfl, _, _, rfl, rfl, (lt0 (by decide)), _, rfl, _, rfl, _, _, rfl, rfl, .inl ⟨by decide, by decide⟩, _, _, rfl, rfl, _, _, rfl, rfl, .inl ⟨by omega, by omega⟩, _, _, rfl, rfl, (lt0 (by decide)), _, _, rfl, rfl, ?_⟩
          generalize hz : (seed * 69069 + (1 + (i : Nat) : Int)) % 1999993 * (seed + 3 * (1 + (i : Nat) : Int)) = z
          obtain ⟨g1, g2⟩ := hq z
          refine ⟨_, rfl, .inl ⟨rfl, _, sql (S1 _ _ hp)⟩, _, rfl, _, _, rfl, rfl, ⟨by decide, by decide⟩, p, _, _, rfl, rfl, (S1 _ _ hp), szl (by omega), ?_⟩
          refine ⟨true, rest, _, some (.int (1 + (i : Nat))), ns ++ [(z % 1999993 + 1) / 5], rfl, (SI.trans S1).mut np, ?_, ?_, snoc _ (by omega) (by omega), g1, g2⟩
          · rw [upd_same, List.map_append]
            rfl
          · rw [List.length_append, hl]
            rfl
    · rintro σ H' ⟨dg, rest, seed, x6, ns, rfl, SI, hp, hl, hd, _, _⟩
      exact ⟨_, rfl, q p H' ns ⟨SI, np, hp⟩ hl hd⟩
def sp_law_ranges (K : PySem.W.Frag) : Sp := fun vs H Q _ => ∃ (a : Addr) (ns : List Int) (most : Int), vs = [.ref a, .int most] ∧ SqL K H a (ns.map V.int) ∧ 1 ≤ most ∧ most ≤ 12 ∧ ∀ p H' rs, NewT H H' p (rV rs) → RngOk rs → (∀ r ∈ rs, r.1.natAbs ≤ 10 ^ 36 ∧ r.2.natAbs ≤ 10 ^ 36) → prodI (rs.map wid) ≤ most → Q (.ref p) H'
theorem fig36 {n : Int} (h : n.natAbs ≤ 10 ^ 36) : Fig n := Nat.lt_of_le_of_lt h (by decide)
theorem p35 : (10 : Int) ^ (35 : Int).toNat = 100000000000000000000000000000000000 := by decide +kernel
theorem p20 : (10 : Int) ^ (20 : Int).toNat = 100000000000000000000 := by decide +kernel
theorem p9 : (10 : Int) ^ (9 : Int).toNat = 1000000000 := by decide +kernel
theorem p36 : (10 : Nat) ^ 36 = 1000000000000000000000000000000000000 := by decide +kernel
theorem ok__law_ranges (T : Top K mg base) : DOk P w K mg base "_law_ranges" 2 ["_law_script", "_law_most"] (sp_law_ranges K) := by
  have G__law_draws := ok__law_draws (P := P) (w := w) T
  have G__law_at := ok__law_at (P := P) (w := w) T
  obtain ⟨fd, F⟩ := T.D__law_ranges
  refine ⟨fd, F.ok sc__law_ranges (fun vs H Q E h => ?_) (fun cdv A outer s H vs Q E hr h => ?_), F.bindsN fun _ _ _ _ _ _ us hl => match us, hl with | [_, _], _ => rfl, F.kp, T.g__law_ranges⟩
  · obtain ⟨a, ns, most, rfl, _⟩ := h
    rfl
  · obtain ⟨a, ns, most, rfl, hS, hm1, hm2, q⟩ := h
-- slots: 0 _law_script 1 _law_most 2 _law_ways 3 _law_voices 4 _law_great 5 _law_low 6 _law_far 7 _law_found 8 _law_k 9 _law_wide 10 _law_first
-- needs: _law_draws _law_at
    refine ⟨_, PSs.nox (pss_cons (ps_set (i := 2) sc__law_ranges.nd rfl (by first | exact Or.inl rfl | exact Or.inr rfl) (dcall G__law_draws (hr.mono (by decide)) (by rfl) (pa_cons (dcall G__law_at (hr.mono (by decide)) (by rfl) (pa_cons (pv 0) (pa_cons pe_int pa_nil))) (pa_cons pe_int pa_nil))))
      (pss_cons (ps_set (i := 3) sc__law_ranges.nd rfl (by first | exact Or.inl rfl | exact Or.inr rfl) (pe_ix ix_list (pe_lst (pa_cons pe_int (pa_cons pe_int (pa_cons pe_int (pa_cons pe_int (pa_cons pe_int (pa_cons pe_int (pa_cons pe_int (pa_cons pe_int pa_nil))))))))) (pe_op op_mod (dcall G__law_at (hr.mono (by decide)) (by rfl) (pa_cons (pv 0) (pa_cons pe_int pa_nil))) pe_int) (fun _ _ => rfl)))
      (pss_cons (ps_set (i := 4) sc__law_ranges.nd rfl (by first | exact Or.inl rfl | exact Or.inr rfl) (pe_op op_mod (pe_op op_fdiv (dcall G__law_at (hr.mono (by decide)) (by rfl) (pa_cons (pv 0) (pa_cons pe_int pa_nil))) pe_int) (pe_op op_pow pe_int pe_int)))
      (pss_cons (ps_set (i := 5) sc__law_ranges.nd rfl (by first | exact Or.inl rfl | exact Or.inr rfl) (pe_ix ix_list (pe_lst (pa_cons pe_int (pa_cons pe_int (pa_cons (pe_un un_neg pe_int) (pa_cons (pe_op op_mod (pv 4) (pe_op op_pow pe_int pe_int)) (pa_cons (pe_op op_sub pe_int (pv 4)) pa_nil)))))) (pe_op op_mod (dcall G__law_at (hr.mono (by decide)) (by rfl) (pa_cons (pv 0) (pa_cons pe_int pa_nil))) pe_int) (fun _ _ => rfl)))
      (pss_cons (ps_set (i := 6) sc__law_ranges.nd rfl (by first | exact Or.inl rfl | exact Or.inr rfl) (pe_ix ix_list (pe_lst (pa_cons pe_int (pa_cons pe_int (pa_cons pe_int (pa_cons (pe_op op_mod (pe_op op_fdiv (dcall G__law_at (hr.mono (by decide)) (by rfl) (pa_cons (pv 0) (pa_cons pe_int pa_nil))) pe_int) (pe_op op_pow pe_int pe_int)) pa_nil))))) (pe_op op_mod (dcall G__law_at (hr.mono (by decide)) (by rfl) (pa_cons (pv 0) (pa_cons pe_int pa_nil))) pe_int) (fun _ _ => rfl)))
      (pss_cons (ps_set (i := 7) sc__law_ranges.nd rfl (by first | exact Or.inl rfl | exact Or.inr rfl) (pe_lst pa_nil))
      (pss_cons (ps_for PassesOwn.never rfl (pi_range1 (by rfl) T.b_range (pa_cons (pv 3) pa_nil)) (pg_name (i := 8) sc__law_ranges.nd rfl (by first | exact Or.inl rfl | exact Or.inr rfl))
        (pss_cons (ps_set (i := 9) sc__law_ranges.nd rfl (by first | exact Or.inl rfl | exact Or.inr rfl) (pe_op op_add pe_int (pe_op op_mod (pe_ix ix_list (pv 2) (pe_op op_add pe_int (pv 8)) (fun _ _ => rfl)) (pe_callB (call_min2 rfl) (by rfl) T.b_min (by decide +kernel) (pa_cons (pv 1) (pa_cons (pe_op op_add pe_int (pe_op op_mul pe_int (pe_callTy call_int1 (by rfl) T.b_int (by decide +kernel) (pa_cons (pe_cmpR op_eq (pv 3) pe_int (nomark _)) pa_nil)))) pa_nil))))))
        (pss_cons (ps_set (i := 10) sc__law_ranges.nd rfl (by first | exact Or.inl rfl | exact Or.inr rfl) (pe_op op_sub (pe_op op_add (pe_op op_add (pv 5) (pe_op op_mul (pv 8) (pv 6))) (pe_op op_mod (pe_op op_fdiv (pe_ix ix_list (pv 2) (pe_op op_add pe_int (pv 8)) (fun _ _ => rfl)) pe_int) pe_int)) pe_int))
        (pss_cons (ps_expr (pe_bm PySem.F.plainAttrs_list PySem.F.slot_list_append PySem.F.type_list_append mt_append (pv 7) (pa_cons (pe_tup (pa_cons (pv 10) (pa_cons (pe_op op_sub (pe_op op_add (pv 10) (pv 9)) pe_int) pa_nil))) pa_nil)))
        (pss_one (ps_set (i := 1) sc__law_ranges.nd rfl (by first | exact Or.inl rfl | exact Or.inr rfl) (pe_op op_fdiv (pv 1) (pv 9))))))))
      (pss_one (ps_ret (pv 7)))))))))), ?_⟩
    refine ⟨_, rfl, a, ns, 0, rfl, hS, atD ns 0, 6, rfl, by decide, fun pw H1 dr N1 l1 d1 => ?_⟩
    have S1 := N1.same
    refine ⟨by show 8 ≤ sizeLine; decide, fun lp nlp => ?_⟩
    have S2 := S1.trans (Same.new (o := .lst [.int 1, .int 1, .int 2, .int 2, .int 2, .int 3, .int 4, .int 1]) nlp)
    refine ⟨_, rfl, a, ns, 0, rfl, S2.seq hS, _, _, rfl, rfl, (lt0 (by decide)), ?_⟩
    obtain ⟨vo, hvm, hva⟩ := at_in (xs := [1, 1, 2, 2, 2, 3, 4, 1]) (i := atD ns 0 % 8) (by omega) (by show _ < ((8 : Nat) : Int); omega)
    have hvo : 1 ≤ vo ∧ vo ≤ 4 := by
      simp only [List.mem_cons, List.not_mem_nil, or_false] at hvm
      omega
    refine ⟨lp, _, _, .int vo, rfl, rfl, sql upd_same, hva, ?_⟩
    refine ⟨_, rfl, a, ns, 1, rfl, S2.seq hS, _, _, rfl, rfl, ⟨by decide, by decide⟩, _, _, rfl, rfl, ⟨by decide, by decide, by decide⟩, _, _, rfl, rfl, (lt0 (by decide +kernel)), ?_⟩
    rw [p35]
    have hgr2 : 0 ≤ (atD ns 1 / 5 % 100000000000000000000000000000000000) ∧ (atD ns 1 / 5 % 100000000000000000000000000000000000) < 100000000000000000000000000000000000 := by omega
    refine ⟨_, rfl, _, rfl, _, _, rfl, rfl, ⟨by decide, by decide, by decide⟩, _, _, rfl, rfl, (lt0 (by decide +kernel)), _, rfl, _, _, rfl, rfl, by show 5 ≤ sizeLine; decide, fun lp2 nlp2 => ?_⟩
    rw [p9]
    have S3 := S2.trans (Same.new (o := .lst [.int 0, .int 60, .int (-5), .int ((atD ns 1 / 5 % 100000000000000000000000000000000000) % 1000000000), .int (0 - (atD ns 1 / 5 % 100000000000000000000000000000000000))]) nlp2)
    refine ⟨_, rfl, a, ns, 1, rfl, S3.seq hS, _, _, rfl, rfl, (lt0 (by decide)), ?_⟩
    obtain ⟨low, hlm, hla⟩ := at_in (xs := [0, 60, -5, (atD ns 1 / 5 % 100000000000000000000000000000000000) % 1000000000, 0 - (atD ns 1 / 5 % 100000000000000000000000000000000000)]) (i := atD ns 1 % 5) (by omega) (by show _ < ((5 : Nat) : Int); omega)
    have hlow : -100000000000000000000000000000000000 ≤ low ∧ low ≤ 100000000000000000000000000000000000 := by
      simp only [List.mem_cons, List.not_mem_nil, or_false] at hlm
      omega
    refine ⟨lp2, _, _, .int low, rfl, rfl, sql upd_same, hla, ?_⟩
    refine ⟨_, rfl, a, ns, 2, rfl, S3.seq hS, _, _, rfl, rfl, ⟨by decide, by decide⟩, _, _, rfl, rfl, ⟨by decide, by decide, by decide⟩, _, _, rfl, rfl, (lt0 (by decide +kernel)), by show 4 ≤ sizeLine; decide, fun lp3 nlp3 => ?_⟩
    rw [p20]
    have S4 := S3.trans (Same.new (o := .lst [.int 0, .int 0, .int 12, .int (atD ns 2 / 4 % 100000000000000000000)]) nlp3)
    refine ⟨_, rfl, a, ns, 2, rfl, S4.seq hS, _, _, rfl, rfl, (lt0 (by decide)), ?_⟩
    obtain ⟨far, hfm, hfa⟩ := at_in (xs := [0, 0, 12, atD ns 2 / 4 % 100000000000000000000]) (i := atD ns 2 % 4) (by omega) (by show _ < ((4 : Nat) : Int); omega)
    have hfar : 0 ≤ far ∧ far ≤ 100000000000000000000 := by
      simp only [List.mem_cons, List.not_mem_nil, or_false] at hfm
      omega
    refine ⟨lp3, _, _, .int far, rfl, rfl, sql upd_same, hfa, ?_⟩
    refine ⟨Nat.zero_le _, fun p np => ?_⟩
    have S5 := S4.trans (Same.new (o := .lst []) np)
    have npH : H p = none := S4.free np
    have hdr : upd (upd (upd (upd H1 lp (.lst [.int 1, .int 1, .int 2, .int 2, .int 2, .int 3, .int 4, .int 1])) lp2 (.lst [.int 0, .int 60, .int (-5), .int ((atD ns 1 / 5 % 100000000000000000000000000000000000) % 1000000000), .int (0 - (atD ns 1 / 5 % 100000000000000000000000000000000000))])) lp3 (.lst [.int 0, .int 0, .int 12, .int (atD ns 2 / 4 % 100000000000000000000)])) p (.lst []) pw = some (.lst (dr.map V.int)) :=
      (((Same.new nlp).trans (Same.new nlp2)).trans ((Same.new nlp3).trans (Same.new np))) _ _ N1.at_
    have hne : pw ≠ p := ne_of_none ((((Same.new nlp).trans (Same.new nlp2)).trans (Same.new nlp3)) _ _ N1.at_) np
    refine ⟨_, rfl, vo, rfl, by omega, by omega, for_range (lo := 0) (n := vo.toNat) (fun i σ H' => ∃ (mo : Int) (x8 x9 x10 : Option V) (xs : List V) (rs : Rng), σ = [some (.ref a), some (.int mo), some (.ref pw), some (.int vo), some (.int (atD ns 1 / 5 % 100000000000000000000000000000000000)), some (.int low), some (.int far), some (.ref p), x8, x9, x10] ∧ Same H H' ∧ H' pw = some (.lst (dr.map V.int)) ∧ H' p = some (.lst xs) ∧ Tups H' xs (rV rs) ∧
        rs.length = i ∧ (∀ r ∈ rs, r.1 ≤ r.2 ∧ r.1.natAbs ≤ 10 ^ 36 ∧ r.2.natAbs ≤ 10 ^ 36) ∧ 1 ≤ mo ∧ mo ≤ 12 ∧ prodI (rs.map wid) * mo ≤ most)
      ⟨most, none, none, none, [], [], rfl, S5, hdr, upd_same, .nil, rfl, fun r hr => (nomatch hr), hm1, hm2, by show (1 : Int) * most ≤ most; omega⟩ ?_ ?_⟩
    · rintro i σ H' hi ⟨mo, x8, x9, x10, xs, rs, rfl, SI, hw, hp, tp, lr, hr2, hmo1, hmo2, hpr⟩
      have hi2 : i < 4 := by omega
      have l1 : dr.length = 6 := l1
      have gw : dr[2 + i]? = some (dr.getD (2 + i) 0) := by rw [List.getD_eq_getElem?_getD, List.getElem?_eq_getElem (by omega)]; rfl
      have dw := d1 _ (List.mem_of_getElem? gw)
      generalize dr.getD (2 + i) 0 = dv at gw dw
      have ei : (2 : Int) + (0 + (i : Nat)) = ((2 + i : Nat) : Int) := by omega
      have hmin : ∀ b : Bool, 0 < (if 6 + 6 * (if b = true then (1 : Int) else 0) < mo then 6 + 6 * (if b = true then (1 : Int) else 0) else mo) ∧ (if 6 + 6 * (if b = true then (1 : Int) else 0) < mo then 6 + 6 * (if b = true then (1 : Int) else 0) else mo) ≤ mo := by
        intro b
        cases b
        · split <;> simp <;> omega
        · split <;> simp <;> omega
      have hM := hmin (decide (V.int vo = V.int 1))
      have w1 : 0 ≤ dv % (if 6 + 6 * (if decide (V.int vo = V.int 1) = true then (1 : Int) else 0) < mo then 6 + 6 * (if decide (V.int vo = V.int 1) = true then (1 : Int) else 0) else mo) := Int.emod_nonneg _ (by omega)
      have w2 : dv % (if 6 + 6 * (if decide (V.int vo = V.int 1) = true then (1 : Int) else 0) < mo then 6 + 6 * (if decide (V.int vo = V.int 1) = true then (1 : Int) else 0) else mo) < (if 6 + 6 * (if decide (V.int vo = V.int 1) = true then (1 : Int) else 0) < mo then 6 + 6 * (if decide (V.int vo = V.int 1) = true then (1 : Int) else 0) else mo) := Int.emod_lt_of_pos _ hM.1
      have hW1 : 1 ≤ 1 + dv % (if 6 + 6 * (if decide (V.int vo = V.int 1) = true then (1 : Int) else 0) < mo then 6 + 6 * (if decide (V.int vo = V.int 1) = true then (1 : Int) else 0) else mo) := by omega
      have hW2 : 1 + dv % (if 6 + 6 * (if decide (V.int vo = V.int 1) = true then (1 : Int) else 0) < mo then 6 + 6 * (if decide (V.int vo = V.int 1) = true then (1 : Int) else 0) else mo) ≤ mo := by omega
      have k1 : 0 ≤ (0 + (i : Int)) * far := Int.mul_nonneg (by omega) hfar.1
      have k2 : (0 + (i : Int)) * far ≤ 3 * 100000000000000000000 := Int.mul_le_mul (by omega) hfar.2 hfar.1 (by omega)
      have hw' : ∀ t, H' t = none → ∀ ys o, (upd (upd H' t o) p (.lst ys)) pw = some (.lst (dr.map V.int)) := fun t nt ys o => by
        rw [upd_ne hne, upd_ne (ne_of_none hw nt)]
        exact hw
      refine ⟨_, rfl, _, rfl, _, _, rfl, rfl, pw, _, _, .int dv, rfl, rfl, sql hw, at_of ei (int_get gw), _, rfl, _, rfl, rfl, .inr ⟨_, rfl, _, _, rfl, rfl, .inl ⟨by decide, by decide⟩, _, _, rfl, rfl, _, _, rfl, _, _, rfl, rfl, hM.1, _, _, rfl, rfl, ?_⟩⟩
      refine ⟨_, rfl, _, rfl, _, rfl, _, _, rfl, rfl, .inl ⟨by omega, by omega⟩, _, _, rfl, rfl, _, rfl, _, rfl, _, _, rfl, rfl, pw, _, _, .int dv, rfl, rfl, sql hw, at_of ei (int_get gw), _, _, rfl, rfl, ⟨by decide, by decide⟩, _, _, rfl, rfl, (lt0 (by decide)), _, _, rfl, rfl, _, _, rfl, rfl, ?_⟩
      refine ⟨_, rfl, .inl ⟨rfl, _, sql hp⟩, _, rfl, _, rfl, _, rfl, _, _, rfl, rfl, _, _, rfl, rfl, by show 2 ≤ sizeLine; decide, fun t nt => ?_⟩
      have St := Same.new (o := .tup [.int (low + (0 + (i : Int)) * far + dv / 12 % 7 - 3), .int (low + (0 + (i : Int)) * far + dv / 12 % 7 - 3 + (1 + dv % (if 6 + 6 * (if decide (V.int vo = V.int 1) = true then (1 : Int) else 0) < mo then 6 + 6 * (if decide (V.int vo = V.int 1) = true then (1 : Int) else 0) else mo)) - 1)]) nt
      refine ⟨p, xs, .ref t, rfl, rfl, St _ _ hp, szl (by rw [tp.len]; unfold rV; rw [List.length_map]; omega), ?_⟩
      refine ⟨_, rfl, _, rfl, _, _, rfl, rfl, ⟨by omega, by omega⟩, _, some (.int (0 + (i : Nat))), some _, some _, xs ++ [.ref t], rs ++ [(low + (0 + (i : Int)) * far + dv / 12 % 7 - 3, low + (0 + (i : Int)) * far + dv / 12 % 7 - 3 + (1 + dv % (if 6 + 6 * (if decide (V.int vo = V.int 1) = true then (1 : Int) else 0) < mo then 6 + 6 * (if decide (V.int vo = V.int 1) = true then (1 : Int) else 0) else mo)) - 1)], rfl, (SI.trans St).mut npH, hw' t nt _ _, upd_same, ?_, ?_, ?_, ?_, ?_, ?_⟩
      · unfold rV
        rw [List.map_append]
        exact ((tp.mono St.tk).mono (TK.lst (St _ _ hp))).snoc (TK.lst (St _ _ hp) _ _ upd_same)
      · rw [List.length_append, lr]
        rfl
      · intro r hr
        rcases List.mem_append.mp hr with hr | hr
        · exact hr2 r hr
        · rw [List.mem_singleton.mp hr, p36]
          refine ⟨?_, ?_, ?_⟩
          · show low + (0 + (i : Int)) * far + dv / 12 % 7 - 3 ≤ low + (0 + (i : Int)) * far + dv / 12 % 7 - 3 + (1 + dv % (if 6 + 6 * (if decide (V.int vo = V.int 1) = true then (1 : Int) else 0) < mo then 6 + 6 * (if decide (V.int vo = V.int 1) = true then (1 : Int) else 0) else mo)) - 1
            omega
          · show (low + (0 + (i : Int)) * far + dv / 12 % 7 - 3).natAbs ≤ _
            omega
          · show (low + (0 + (i : Int)) * far + dv / 12 % 7 - 3 + (1 + dv % (if 6 + 6 * (if decide (V.int vo = V.int 1) = true then (1 : Int) else 0) < mo then 6 + 6 * (if decide (V.int vo = V.int 1) = true then (1 : Int) else 0) else mo)) - 1).natAbs ≤ _
            omega
      · show 1 ≤ mo / (1 + dv % (if 6 + 6 * (if decide (V.int vo = V.int 1) = true then (1 : Int) else 0) < mo then 6 + 6 * (if decide (V.int vo = V.int 1) = true then (1 : Int) else 0) else mo))
        exact Int.le_ediv_of_mul_le (by omega) (by omega)
      · show mo / (1 + dv % (if 6 + 6 * (if decide (V.int vo = V.int 1) = true then (1 : Int) else 0) < mo then 6 + 6 * (if decide (V.int vo = V.int 1) = true then (1 : Int) else 0) else mo)) ≤ 12
        have := Int.ediv_le_self (a := mo) (1 + dv % (if 6 + 6 * (if decide (V.int vo = V.int 1) = true then (1 : Int) else 0) < mo then 6 + 6 * (if decide (V.int vo = V.int 1) = true then (1 : Int) else 0) else mo)) (by omega)
        omega
      · show prodI ((rs ++ [(low + (0 + (i : Int)) * far + dv / 12 % 7 - 3, low + (0 + (i : Int)) * far + dv / 12 % 7 - 3 + (1 + dv % (if 6 + 6 * (if decide (V.int vo = V.int 1) = true then (1 : Int) else 0) < mo then 6 + 6 * (if decide (V.int vo = V.int 1) = true then (1 : Int) else 0) else mo)) - 1)]).map wid) * (mo / (1 + dv % (if 6 + 6 * (if decide (V.int vo = V.int 1) = true then (1 : Int) else 0) < mo then 6 + 6 * (if decide (V.int vo = V.int 1) = true then (1 : Int) else 0) else mo))) ≤ most
        have hP : 1 ≤ prodI (rs.map wid) := prod_pos (wids_pos fun r hr => (hr2 r hr).1)
        have ew : wid (low + (0 + (i : Int)) * far + dv / 12 % 7 - 3, low + (0 + (i : Int)) * far + dv / 12 % 7 - 3 + (1 + dv % (if 6 + 6 * (if decide (V.int vo = V.int 1) = true then (1 : Int) else 0) < mo then 6 + 6 * (if decide (V.int vo = V.int 1) = true then (1 : Int) else 0) else mo)) - 1) = 1 + dv % (if 6 + 6 * (if decide (V.int vo = V.int 1) = true then (1 : Int) else 0) < mo then 6 + 6 * (if decide (V.int vo = V.int 1) = true then (1 : Int) else 0) else mo) := by
          unfold wid
          omega
        rw [List.map_append, prod_append, show prodI ([(low + (0 + (i : Int)) * far + dv / 12 % 7 - 3, low + (0 + (i : Int)) * far + dv / 12 % 7 - 3 + (1 + dv % (if 6 + 6 * (if decide (V.int vo = V.int 1) = true then (1 : Int) else 0) < mo then 6 + 6 * (if decide (V.int vo = V.int 1) = true then (1 : Int) else 0) else mo)) - 1)].map wid) = wid (low + (0 + (i : Int)) * far + dv / 12 % 7 - 3, low + (0 + (i : Int)) * far + dv / 12 % 7 - 3 + (1 + dv % (if 6 + 6 * (if decide (V.int vo = V.int 1) = true then (1 : Int) else 0) < mo then 6 + 6 * (if decide (V.int vo = V.int 1) = true then (1 : Int) else 0) else mo)) - 1) from Int.one_mul _, ew, Int.mul_assoc]
        have h3 := Int.mul_ediv_self_le (x := mo) (k := 1 + dv % (if 6 + 6 * (if decide (V.int vo = V.int 1) = true then (1 : Int) else 0) < mo then 6 + 6 * (if decide (V.int vo = V.int 1) = true then (1 : Int) else 0) else mo)) (by omega)
        have h4 := Int.mul_le_mul_of_nonneg_left h3 (by omega : 0 ≤ prodI (rs.map wid))
        omega
    · rintro σ H' ⟨mo, x8, x9, x10, xs, rs, rfl, SI, hw, hp, tp, lr, hr2, hmo1, hmo2, hpr⟩
      have hP : 1 ≤ prodI (rs.map wid) := prod_pos (wids_pos fun r hr => (hr2 r hr).1)
      have h9 : prodI (rs.map wid) * 1 ≤ prodI (rs.map wid) * mo := Int.mul_le_mul_of_nonneg_left hmo1 (by omega)
      exact ⟨_, rfl, q p H' rs ⟨SI, npH, xs, hp, tp⟩ ⟨fun r hr => ⟨fig36 (hr2 r hr).2.1, fig36 (hr2 r hr).2.2, (hr2 r hr).1⟩, by omega, by omega⟩ (fun r hr => (hr2 r hr).2) (by omega)⟩
end
end Fv
set_option Elab.async false
set_option linter.all false
set_option maxRecDepth 100000
set_option maxHeartbeats 4000000
/-! The law's own rules. -/
namespace Fv
open PySem PySem.Spec PyProof.Rows L2 _root_.TL
/-- a rule as the law tells it: a tuple -/
def RT (H : Hp) : RK → V → Prop
  | .span a b d, v => ∃ t q : Addr, v = .ref t ∧ H t = some (.tup [.str "span", .int ((a : Int) + 1), .int ((b : Int) + 1), .ref q]) ∧ H q = some (.lst (d.map V.int))
  | .clock a b m d, v => ∃ t q : Addr, v = .ref t ∧ H t = some (.tup [.str "clock", .int ((a : Int) + 1), .int ((b : Int) + 1), .int m, .ref q]) ∧ H q = some (.lst (d.map V.int))
  | .alike a b d, v => ∃ t q : Addr, v = .ref t ∧ H t = some (.tup [.str "alike", .int ((a : Int) + 1), .int ((b : Int) + 1), .ref q]) ∧ H q = some (.lst (d.map V.int))
  | .move x d, v => ∃ t q : Addr, v = .ref t ∧ H t = some (.tup [.str "move", .int ((x : Int) + 1), .ref q]) ∧ H q = some (.lst (d.map V.int))
  | .beg x d, v => ∃ t q : Addr, v = .ref t ∧ H t = some (.tup [.str "begin", .int ((x : Int) + 1), .ref q]) ∧ H q = some (.lst (d.map V.int))
  | .clo x d, v => ∃ t q : Addr, v = .ref t ∧ H t = some (.tup [.str "close", .int ((x : Int) + 1), .ref q]) ∧ H q = some (.lst (d.map V.int))
  | .back x d, v => ∃ t : Addr, v = .ref t ∧ H t = some (.tup [.str "back", .int ((x : Int) + 1), .int d])
  | .held x k, v => ∃ t : Addr, v = .ref t ∧ H t = some (.tup [.str "held", .int ((x : Int) + 1), .int k])
  | .times x y lo hi, v => ∃ t : Addr, v = .ref t ∧ H t = some (.tup [.str "times", .int ((x : Int) + 1), .int y, .int lo, .int hi])
  | .ev m r i, v => ∃ (t : Addr) (u : V), v = .ref t ∧ H t = some (.tup [.str "every", .int m, .int r, u]) ∧ RT H i u
theorem RT.fk {H H' : Hp} {n : Nat} (s : FK H H') : ∀ {R : RK} {v : V}, R.ok n → RT H R v → RT H' R v := by
  have L : ∀ {q : Addr} {d : List Int}, Some12 d → H q = some (.lst (d.map V.int)) → H' q = some (.lst (d.map V.int)) := by
    intro q d hd e
    cases d with
    | nil => exact absurd hd.1 (by decide)
    | cons x d => exact s.lst _ _ _ e
  intro R
  induction R with
  | span a b d => exact fun hk ⟨t, q, e, h1, h2⟩ => ⟨t, q, e, s.tup _ _ h1, L hk.2.2 h2⟩
  | clock a b m d => exact fun hk ⟨t, q, e, h1, h2⟩ => ⟨t, q, e, s.tup _ _ h1, L hk.2.2.2.2 h2⟩
  | alike a b d => exact fun hk ⟨t, q, e, h1, h2⟩ => ⟨t, q, e, s.tup _ _ h1, L hk.2.2 h2⟩
  | move v d => exact fun hk ⟨t, q, e, h1, h2⟩ => ⟨t, q, e, s.tup _ _ h1, L hk.2 h2⟩
  | beg v d => exact fun hk ⟨t, q, e, h1, h2⟩ => ⟨t, q, e, s.tup _ _ h1, L hk.2 h2⟩
  | clo v d => exact fun hk ⟨t, q, e, h1, h2⟩ => ⟨t, q, e, s.tup _ _ h1, L hk.2 h2⟩
  | back v d => exact fun hk ⟨t, e, h1⟩ => ⟨t, e, s.tup _ _ h1⟩
  | held v k => exact fun hk ⟨t, e, h1⟩ => ⟨t, e, s.tup _ _ h1⟩
  | times v x lo hi => exact fun hk ⟨t, e, h1⟩ => ⟨t, e, s.tup _ _ h1⟩
  | ev m r i ih => exact fun hk ⟨t, u, e, h1, h2⟩ => ⟨t, u, e, s.tup _ _ h1, ih hk.2.2.2.2.2 h2⟩
theorem RT.ref {H : Hp} : ∀ {R : RK} {v : V}, RT H R v → ∃ a, v = V.ref a
  | .span .., _, ⟨t, _, e, _⟩ => ⟨t, e⟩
  | .clock .., _, ⟨t, _, e, _⟩ => ⟨t, e⟩
  | .alike .., _, ⟨t, _, e, _⟩ => ⟨t, e⟩
  | .move .., _, ⟨t, _, e, _⟩ => ⟨t, e⟩
  | .beg .., _, ⟨t, _, e, _⟩ => ⟨t, e⟩
  | .clo .., _, ⟨t, _, e, _⟩ => ⟨t, e⟩
  | .back .., _, ⟨t, e, _⟩ => ⟨t, e⟩
  | .held .., _, ⟨t, e, _⟩ => ⟨t, e⟩
  | .times .., _, ⟨t, e, _⟩ => ⟨t, e⟩
  | .ev .., _, ⟨t, _, e, _⟩ => ⟨t, e⟩
abbrev RTs (H : Hp) : List V → List RK → Prop := Paired fun v R => RT H R v
theorem RTs.fk {H H' : Hp} {n : Nat} {vs : List V} {Rs : List RK} (s : FK H H') (hk : ∀ R ∈ Rs, R.ok n) (h : RTs H vs Rs) : RTs H' vs Rs := by
  induction h with
  | nil => exact .nil
  | cons r t ih => exact .cons (RT.fk s (hk _ (List.mem_cons_self ..)) r) (ih fun R hR => hk R (List.mem_cons_of_mem _ hR))
theorem RTs.refs {H : Hp} {vs : List V} {Rs : List RK} (h : RTs H vs Rs) : ∀ v ∈ vs, ∃ a, v = V.ref a := by
  induction h with
  | nil => exact fun v hv => nomatch hv
  | cons r t ih =>
    intro v hv
    rcases List.mem_cons.mp hv with e | hv
    · obtain ⟨a, e2⟩ := RT.ref r
      exact ⟨a, e.trans e2⟩
    · exact ih v hv
theorem RTs.len {H : Hp} {vs : List V} {Rs : List RK} (h : RTs H vs Rs) : vs.length = Rs.length := Paired.length h
theorem RTs.get : ∀ {H : Hp} {vs : List V} {Rs : List RK} {i : Nat} {v : V}, RTs H vs Rs → vs[i]? = some v → ∃ R, Rs[i]? = some R ∧ RT H R v
  | _, _, _, _, _, .nil, e => by simp at e
  | _, _, _, 0, _, .cons q _, e => by
    have e2 : _ = _ := Option.some.inj e
    subst e2
    exact ⟨_, rfl, q⟩
  | _, _, _, i + 1, _, .cons _ t, e => by
    obtain ⟨R, e2, q⟩ := RTs.get (i := i) t (by simpa using e)
    exact ⟨R, by simpa using e2, q⟩
theorem mod_le {x m : Int} (hx : 0 ≤ x) (hm : 0 < m) : 0 ≤ x % m ∧ x % m ≤ x := by
  refine ⟨Int.emod_nonneg _ (by omega), ?_⟩
  by_cases h : x < m
  · rw [Int.emod_eq_of_lt hx h]
    exact Int.le_refl _
  · have := Int.emod_lt_of_pos x hm
    omega
theorem rng_at {H : Hp} {xs : List V} {rs : Rng} {b : Nat} (t : Tups H xs (rV rs)) (h : b < rs.length) : ∃ rt r, xs[b]? = some (.ref rt) ∧ rs[b]? = some r ∧ H rt = some (.tup [.int r.1, .int r.2]) := by
  have e := List.getElem?_eq_getElem h
  obtain ⟨a, h1, h2⟩ := t.get (i := b) (c := [V.int rs[b].1, V.int rs[b].2]) (by unfold rV; rw [List.getElem?_map, e]; rfl)
  exact ⟨a, rs[b], h1, e, h2⟩
theorem p36b : (10 : Nat) ^ 36 = 1000000000000000000000000000000000000 := by decide +kernel
def Small36 (rs : Rng) : Prop := ∀ r ∈ rs, r.1.natAbs ≤ 10 ^ 36 ∧ r.2.natAbs ≤ 10 ^ 36
theorem fig_big {x : Int} (h : x.natAbs ≤ 9000000000000000000000000000000000000) : Fig x := Nat.lt_of_le_of_lt h (by decide)
section
variable {P : Program} {w : World} {K : PySem.W.Frag} {mg : Str → Option Value} {base : Heap}
def sp_some (K : PySem.W.Frag) : Sp := fun vs H Q _ => ∃ (a : Addr) (ws : List Int) (l wd : Int), vs = [.ref a, .int l, .int wd] ∧ SqL K H a (ws.map V.int) ∧ Drawn ws ∧ 14 ≤ ws.length ∧ 0 ≤ wd ∧
  ∀ p H' d, NewI H H' p d → 1 ≤ d.length → d.length ≤ 12 → (∀ x ∈ d, l - 1 ≤ x ∧ x ≤ l + 500000) → Q (.ref p) H'
theorem ok__law_some (T : Top K mg base) : DOk P w K mg base "_law_some" 1 ["_law_ways", "_law_least", "_law_wide"] (sp_some K) := by
  obtain ⟨fd, F⟩ := T.D__law_some
  refine ⟨fd, F.ok sc__law_some (fun vs H Q E h => ?_) (fun cdv A outer s H vs Q E hr h => ?_), F.bindsN fun _ _ _ _ _ _ us hl => match us, hl with | [_, _, _], _ => rfl, F.kp, T.g__law_some⟩
  · obtain ⟨a, ws, l, wd, rfl, _⟩ := h
    rfl
  · obtain ⟨a, ws, l, wd, rfl, hS, hd, hl, hw, q⟩ := h
    have dw : ∀ j, j < ws.length → 0 ≤ ws.getD j 0 ∧ ws.getD j 0 < 400000 := fun j hj => by
      have e : ws[j]? = some (ws.getD j 0) := by rw [List.getD_eq_getElem?_getD, List.getElem?_eq_getElem hj]; rfl
      exact hd _ (List.mem_of_getElem? e)
    have hmany : ∀ b : Bool, 1 ≤ 1 + ws.getD 0 0 % 6 + 6 * (if b = true then (1 : Int) else 0) ∧ 1 + ws.getD 0 0 % 6 + 6 * (if b = true then (1 : Int) else 0) ≤ 12 := by
      intro b
      cases b
      · simp
        omega
      · simp
        omega
    have hm := hmany (decide (V.int (ws.getD 1 0 % 8) = V.int 3))
-- slots: 0 _law_ways 1 _law_least 2 _law_wide 3 _law_many 4 _law_k
-- needs: 
    refine ⟨_, PSs.nox (pss_cons (ps_set (i := 3) sc__law_some.nd rfl (by first | exact Or.inl rfl | exact Or.inr rfl) (pe_op op_add (pe_op op_add pe_int (pe_op op_mod (pe_ix ix_list (pv 0) pe_int (fun _ _ => rfl)) pe_int)) (pe_op op_mul pe_int (pe_callTy call_int1 (by rfl) T.b_int (by decide +kernel) (pa_cons (pe_cmpR op_eq (pe_op op_mod (pe_ix ix_list (pv 0) pe_int (fun _ _ => rfl)) pe_int) pe_int (nomark _)) pa_nil)))))
      (pss_cons (ps_if (pt_cmpR op_eq (pe_op op_mod (pe_ix ix_list (pv 0) pe_int (fun _ _ => rfl)) pe_int) pe_int (nomark _))
        (pss_one (ps_ret (pe_lc (own := [("_law_k", 4)]) (g := gName 4) (tt := tYes) rfl sc__law_some.nd (pi_range1 (by rfl) T.b_range (pa_cons (pv 3) pa_nil)) (blkOk_by (N := N__law_some) (sc := defScope s__law_some) (by decide +kernel)) (fun _ _ _ _ _ => pg_name (i := 4) sc__law_some.nd rfl (Or.inl rfl)) (fun _ _ _ _ _ => pts_nil) (fun _ _ _ _ _ => (pe_op op_add (pe_op op_add (pe_op op_sub (pv 1) pe_int) (pe_op op_mod (pe_ix (show IxR _ (rIxL K) from ix_list) (pv 0) pe_int (fun _ _ => rfl)) (pe_op op_add (pv 2) pe_int))) (pv 4))))))
        pss_nil)
      (pss_one (ps_ret (pe_lc (own := [("_law_k", 4)]) (g := gName 4) (tt := tYes) rfl sc__law_some.nd (pi_range1 (by rfl) T.b_range (pa_cons (pv 3) pa_nil)) (blkOk_by (N := N__law_some) (sc := defScope s__law_some) (by decide +kernel)) (fun _ _ _ _ _ => pg_name (i := 4) sc__law_some.nd rfl (Or.inl rfl)) (fun _ _ _ _ _ => pts_nil) (fun _ _ _ _ _ => (pe_op op_add (pe_op op_sub (pv 1) pe_int) (pe_op op_mod (pe_ix (show IxR _ (rIxL K) from ix_list) (pv 0) (pe_op op_add pe_int (pv 4)) (fun _ _ => rfl)) (pe_op op_add (pv 2) pe_int))))))))), ?_⟩
    refine ⟨_, rfl, a, _, _, _, rfl, rfl, hS, at_col (a := 0) (by omega), _, _, rfl, rfl, lt0 (by decide), _, _, rfl, rfl, _, rfl, a, _, _, _, rfl, rfl, hS, at_col (a := 1) (by omega), _, _, rfl, rfl, lt0 (by decide), rfl, .inr ⟨_, rfl, _, _, rfl, rfl, .inl ⟨by decide, by decide⟩, _, _, rfl, rfl, ?_⟩⟩
    refine ⟨_, rfl, a, _, _, _, rfl, rfl, hS, at_col (a := 1) (by omega), _, _, rfl, rfl, lt0 (by decide), rfl, _, rfl, ite2 (fun _ => ?_) (fun _ => ?_)⟩
    · refine ⟨_, rfl, _, rfl, by omega, by omega, fun D hD => lc_range (lo := 0) (n := (1 + ws.getD 0 0 % 6 + 6 * (if decide (V.int (ws.getD 1 0 % 8) = V.int 3) = true then (1 : Int) else 0)).toNat) (fun j H' => Same H H' ∧ ∃ d : List Int, H' D = some (.lst (d.map V.int)) ∧ d.length = j ∧ ∀ x ∈ d, l - 1 ≤ x ∧ x ≤ l + 500000)
        ⟨Same.new hD, [], upd_same, rfl, fun x hx => nomatch hx⟩ ?_ ?_⟩
      · rintro j H' hj ⟨SJ, d, hy, hdl, hdb⟩
        have g := mod_le (dw 2 (by omega)).1 (by omega : 0 < wd + 1)
        have g2 := (dw 2 (by omega)).2
        refine ⟨rfl, _, rfl, _, _, rfl, rfl, _, rfl, a, _, _, _, rfl, rfl, SJ.seq hS, at_col (a := 2) (by omega), _, rfl, _, _, rfl, rfl, _, _, rfl, rfl, (by show 0 < wd + 1; omega), _, _, rfl, rfl, _, rfl, _, _, rfl, rfl, _, hy, szl (by rw [List.length_map]; omega), SJ.mut hD, d ++ [l - 1 + ws.getD 2 0 % (wd + 1) + (0 + (j : Nat))], ?_, ?_, ?_⟩
        · rw [upd_same, List.map_append]
          rfl
        · rw [List.length_append, hdl]
          rfl
        · intro x hx
          rcases List.mem_append.mp hx with hx | hx
          · exact hdb x hx
          · rw [List.mem_singleton.mp hx]
            omega
      · rintro H' ⟨SJ, d, hy, hdl, hdb⟩
        exact q D H' d ⟨SJ, hD, hy⟩ (by omega) (by omega) hdb
    · refine ⟨_, rfl, _, rfl, by omega, by omega, fun D hD => lc_range (lo := 0) (n := (1 + ws.getD 0 0 % 6 + 6 * (if decide (V.int (ws.getD 1 0 % 8) = V.int 3) = true then (1 : Int) else 0)).toNat) (fun j H' => Same H H' ∧ ∃ d : List Int, H' D = some (.lst (d.map V.int)) ∧ d.length = j ∧ ∀ x ∈ d, l - 1 ≤ x ∧ x ≤ l + 500000)
        ⟨Same.new hD, [], upd_same, rfl, fun x hx => nomatch hx⟩ ?_ ?_⟩
      · rintro j H' hj ⟨SJ, d, hy, hdl, hdb⟩
        have hj2 : 2 + j < ws.length := by omega
        have g := mod_le (dw (2 + j) hj2).1 (by omega : 0 < wd + 2)
        have g2 := (dw (2 + j) hj2).2
        have gw : (ws.map V.int)[2 + j]? = some (.int (ws.getD (2 + j) 0)) := int_get (by rw [List.getD_eq_getElem?_getD, List.getElem?_eq_getElem hj2]; rfl)
        have ei : (2 : Int) + (0 + (j : Nat)) = ((2 + j : Nat) : Int) := by omega
        refine ⟨rfl, _, rfl, _, _, rfl, rfl, _, rfl, _, rfl, _, _, rfl, rfl, a, _, _, _, rfl, rfl, SJ.seq hS, at_of ei gw, _, rfl, _, _, rfl, rfl, _, _, rfl, rfl, (by show 0 < wd + 2; omega), _, _, rfl, rfl, _, hy, szl (by rw [List.length_map]; omega), SJ.mut hD, d ++ [l - 1 + ws.getD (2 + j) 0 % (wd + 2)], ?_, ?_, ?_⟩
        · rw [upd_same, List.map_append]
          rfl
        · rw [List.length_append, hdl]
          rfl
        · intro x hx
          rcases List.mem_append.mp hx with hx | hx
          · exact hdb x hx
          · rw [List.mem_singleton.mp hx]
            omega
      · rintro H' ⟨SJ, d, hy, hdl, hdb⟩
        exact q D H' d ⟨SJ, hD, hy⟩ (by omega) (by omega) hdb
def sp_pair (K : PySem.W.Frag) : Sp := fun vs H Q _ => ∃ (wa ra : Addr) (ws : List Int) (rs : Rng) (kd : Int), vs = [.ref wa, .ref ra, .int kd] ∧ SqL K H wa (ws.map V.int) ∧ Drawn ws ∧ ws.length = 18 ∧ TL K H ra (rV rs) ∧ RngOk rs ∧ Small36 rs ∧ 0 ≤ kd ∧ kd ≤ 2 ∧
  ∀ v H' R, Same H H' → RT H' R v → R.ok rs.length → (kd ≤ 1 → InnerOk R) → Q v H'
theorem drop_drawn {ws : List Int} (h : Drawn ws) (k : Nat) : Drawn (ws.drop k) := fun x hx => h x (List.mem_of_mem_drop hx)
theorem ok__law_pair_rule (T : Top K mg base) : DOk P w K mg base "_law_pair_rule" 2 ["_law_ways", "_law_ranges_here", "_law_kind"] (sp_pair K) := by
  have G__law_some := ok__law_some (P := P) (w := w) T
  obtain ⟨fd, F⟩ := T.D__law_pair_rule
  refine ⟨fd, F.ok sc__law_pair_rule (fun vs H Q E h => ?_) (fun cdv A outer s H vs Q E hr h => ?_), F.bindsN fun _ _ _ _ _ _ us hl => match us, hl with | [_, _, _], _ => rfl, F.kp, T.g__law_pair_rule⟩
  · obtain ⟨wa, ra, ws, rs, kd, rfl, _⟩ := h
    rfl
  · obtain ⟨wa, ra, ws, rs, kd, rfl, hS, hd, hl, ⟨xs, hra, tx⟩, hR, h36, hk0, hk1, q⟩ := h
    have lx : xs.length = rs.length := by rw [tx.len]; exact List.length_map ..
    have hpos := hR.pos
    have hfew := hR.few
    have dw : ∀ j, j < ws.length → 0 ≤ ws.getD j 0 ∧ ws.getD j 0 < 400000 := fun j hj => by
      have e : ws[j]? = some (ws.getD j 0) := by rw [List.getD_eq_getElem?_getD, List.getElem?_eq_getElem hj]; rfl
      exact hd _ (List.mem_of_getElem? e)
    have m0 : 0 ≤ ws.getD 0 0 % (xs.length : Nat) := Int.emod_nonneg _ (by omega)
    have m1 : ws.getD 0 0 % (xs.length : Nat) < (xs.length : Nat) := Int.emod_lt_of_pos _ (by omega)
    have m2 : 0 ≤ ws.getD 1 0 % (xs.length : Nat) := Int.emod_nonneg _ (by omega)
    have m3 : ws.getD 1 0 % (xs.length : Nat) < (xs.length : Nat) := Int.emod_lt_of_pos _ (by omega)
    obtain ⟨a, ea⟩ : ∃ a : Nat, ws.getD 0 0 % (xs.length : Nat) = (a : Nat) := ⟨(ws.getD 0 0 % (xs.length : Nat)).toNat, by omega⟩
    obtain ⟨b, eb⟩ : ∃ b : Nat, ws.getD 1 0 % (xs.length : Nat) = (b : Nat) := ⟨(ws.getD 1 0 % (xs.length : Nat)).toNat, by omega⟩
    have ha : a < rs.length := by omega
    have hb : b < rs.length := by omega
    obtain ⟨at1, ⟨a0, a1⟩, ga1, ga2, ga3⟩ := rng_at tx ha
    obtain ⟨bt1, ⟨b0, b1⟩, gb1, gb2, gb3⟩ := rng_at tx hb
    obtain ⟨_, _, oa⟩ := hR.fig _ (List.mem_of_getElem? ga2)
    obtain ⟨_, _, ob⟩ := hR.fig _ (List.mem_of_getElem? gb2)
    obtain ⟨sa0, sa1⟩ := h36 _ (List.mem_of_getElem? ga2)
    obtain ⟨sb0, sb1⟩ := h36 _ (List.mem_of_getElem? gb2)
    rw [p36b] at sa0 sa1 sb0 sb1
    have oa : a0 ≤ a1 := oa
    have ob : b0 ≤ b1 := ob
    have sa0 : a0.natAbs ≤ 1000000000000000000000000000000000000 := sa0
    have sa1 : a1.natAbs ≤ 1000000000000000000000000000000000000 := sa1
    have sb0 : b0.natAbs ≤ 1000000000000000000000000000000000000 := sb0
    have sb1 : b1.natAbs ≤ 1000000000000000000000000000000000000 := sb1
-- slots: 0 _law_ways 1 _law_ranges_here 2 _law_kind 3 _law_one 4 _law_other 5 _law_least 6 _law_wide 7 _law_some_here 8 _law_by 9 _law_number
-- needs: _law_some
    refine ⟨_, PSs.nox (pss_cons (ps_set (i := 3) sc__law_pair_rule.nd rfl (by first | exact Or.inl rfl | exact Or.inr rfl) (pe_op op_mod (pe_ix ix_list (pv 0) pe_int (fun _ _ => rfl)) (pe_callB call_len (by rfl) T.b_len PySem.boot_len (pa_cons (pv 1) pa_nil))))
      (pss_cons (ps_set (i := 4) sc__law_pair_rule.nd rfl (by first | exact Or.inl rfl | exact Or.inr rfl) (pe_op op_mod (pe_ix ix_list (pv 0) pe_int (fun _ _ => rfl)) (pe_callB call_len (by rfl) T.b_len PySem.boot_len (pa_cons (pv 1) pa_nil))))
      (pss_cons (ps_set (i := 5) sc__law_pair_rule.nd rfl (by first | exact Or.inl rfl | exact Or.inr rfl) (pe_op op_sub (pe_ix ix_tup (pe_ix ix_list (pv 1) (pv 4) (fun _ _ => rfl)) pe_int (fun _ _ => rfl)) (pe_ix ix_tup (pe_ix ix_list (pv 1) (pv 3) (fun _ _ => rfl)) pe_int (fun _ _ => rfl))))
      (pss_cons (ps_set (i := 6) sc__law_pair_rule.nd rfl (by first | exact Or.inl rfl | exact Or.inr rfl) (pe_op op_add (pe_op op_sub (pe_op op_sub (pe_ix ix_tup (pe_ix ix_list (pv 1) (pv 4) (fun _ _ => rfl)) pe_int (fun _ _ => rfl)) (pe_ix ix_tup (pe_ix ix_list (pv 1) (pv 3) (fun _ _ => rfl)) pe_int (fun _ _ => rfl))) (pv 5)) pe_int))
      (pss_cons (ps_set (i := 7) sc__law_pair_rule.nd rfl (by first | exact Or.inl rfl | exact Or.inr rfl) (dcall G__law_some (hr.mono (by decide)) (by rfl) (pa_cons (pe_slice sl_list (pv 0) (po_some pe_int) po_none) (pa_cons (pv 5) (pa_cons (pv 6) pa_nil)))))
      (pss_cons (ps_if (pt_cmpR op_eq (pv 2) pe_int (nomark _))
        (pss_cons (ps_set (i := 8) sc__law_pair_rule.nd rfl (by first | exact Or.inl rfl | exact Or.inr rfl) (pe_op op_add pe_int (pe_op op_mod (pe_ix ix_list (pv 0) pe_int (fun _ _ => rfl)) (pe_ix ix_list (pe_lst (pa_cons pe_int (pa_cons pe_int (pa_cons pe_int pa_nil)))) (pe_op op_mod (pe_op op_fdiv (pe_ix ix_list (pv 0) pe_int (fun _ _ => rfl)) pe_int) pe_int) (fun _ _ => rfl)))))
        (pss_one (ps_ret (pe_tup (pa_cons pe_str (pa_cons (pe_op op_add (pv 3) pe_int) (pa_cons (pe_op op_add (pv 4) pe_int) (pa_cons (pv 8) (pa_cons (pe_lc (own := [("_law_number", 9)]) (g := gName 9) (tt := tYes) rfl sc__law_pair_rule.nd (pi_list (pv 7)) (blkOk_by (N := N__law_pair_rule) (sc := defScope s__law_pair_rule) (by decide +kernel)) (fun _ _ _ _ _ => pg_name (i := 9) sc__law_pair_rule.nd rfl (Or.inl rfl)) (fun _ _ _ _ _ => pts_nil) (fun _ _ _ _ _ => (pe_op op_mod (pv 9) (pv 8)))) pa_nil)))))))))
        pss_nil)
      (pss_one (ps_ret (pe_tup (pa_cons (pe_ix ix_list (pe_lst (pa_cons pe_str (pa_cons pe_str (pa_cons pe_str pa_nil)))) (pv 2) (fun _ _ => rfl)) (pa_cons (pe_op op_add (pv 3) pe_int) (pa_cons (pe_op op_add (pv 4) pe_int) (pa_cons (pv 7) pa_nil))))))))))))), ?_⟩
    refine ⟨_, rfl, wa, _, _, _, rfl, rfl, hS, at_col (a := 0) (by omega), _, rfl, _, _, rfl, .inl ⟨_, hra, rfl⟩, _, _, rfl, rfl, (by omega), ?_⟩
    refine ⟨_, rfl, wa, _, _, _, rfl, rfl, hS, at_col (a := 1) (by omega), _, rfl, _, _, rfl, .inl ⟨_, hra, rfl⟩, _, _, rfl, rfl, (by omega), ?_⟩
    refine ⟨_, rfl, _, rfl, ra, _, _, .ref bt1, rfl, rfl, hra, at_of eb gb1, bt1, _, _, .int b0, rfl, rfl, sqt gb3, atI_nat (j := 0) rfl, _, rfl, _, rfl, ra, _, _, .ref at1, rfl, rfl, hra, at_of ea ga1, at1, _, _, .int a1, rfl, rfl, sqt ga3, atI_nat (j := 1) rfl, _, _, rfl, rfl, ?_⟩
    refine ⟨_, rfl, _, rfl, ra, _, _, .ref bt1, rfl, rfl, hra, at_of eb gb1, bt1, _, _, .int b1, rfl, rfl, sqt gb3, atI_nat (j := 1) rfl, _, rfl, _, rfl, ra, _, _, .ref at1, rfl, rfl, hra, at_of ea ga1, at1, _, _, .int a0, rfl, rfl, sqt ga3, atI_nat (j := 0) rfl, _, _, rfl, rfl, _, rfl, _, _, rfl, rfl, _, _, rfl, rfl, ?_⟩
    refine ⟨_, rfl, 4, rfl, wa, _, rfl, hS, fun p np => ⟨_, rfl, _, rfl, p, ws.drop 4, b0 - a1, b1 - a0 - (b0 - a1) + 1, rfl, sql (by rw [upd_same, cut_from (i := 4) _ 4 rfl, List.map_drop]), drop_drawn hd 4, by rw [List.length_drop]; omega, by omega, fun p2 H2 d N hd1 hd2 hdb => ?_⟩⟩
    have S2 : Same H H2 := (Same.new np).trans N.same
    have hdf : ∀ x ∈ d, Fig x := fun x hx => by
      obtain ⟨h1, h2⟩ := hdb x hx
      exact fig_big (by omega)
    have hk : kd = 0 ∨ kd = 1 ∨ kd = 2 := by omega
    rcases hk with rfl | rfl | rfl
    · refine ⟨_, rfl, rfl, _, rfl, iteND (fun z => by have := V.int.inj z; omega) ?_⟩
      refine ⟨by show 3 ≤ sizeLine; decide, fun lp nlp => ⟨_, rfl, lp, _, _, .str "span", rfl, rfl, sql upd_same, atI_nat (j := 0) rfl, _, rfl, _, _, rfl, rfl, _, rfl, _, _, rfl, rfl, _, rfl, by show 4 ≤ sizeLine; decide, fun t nt => ?_⟩⟩
      have S3 := (Same.new (o := .lst [.str "span", .str "clock", .str "alike"]) nlp).trans (Same.new (o := .tup [.str "span", .int (ws.getD 0 0 % (xs.length : Nat) + 1), .int (ws.getD 1 0 % (xs.length : Nat) + 1), .ref p2]) nt)
      exact q (.ref t) _ (.span a b d) (S2.trans S3) ⟨t, p2, rfl, by rw [← ea, ← eb]; exact upd_same, S3 _ _ N.at_⟩ ⟨ha, hb, hd1, hd2, hdf⟩ fun _ => .inl ⟨_, _, _, rfl⟩
    · refine ⟨_, rfl, rfl, _, rfl, iteD rfl ?_⟩
      refine ⟨_, rfl, wa, _, _, _, rfl, rfl, S2.seq hS, at_col (a := 3) (by omega), by show 3 ≤ sizeLine; decide, fun lp nlp => ?_⟩
      obtain ⟨bm, hbm, hba⟩ := at_in (xs := [5, 12, 99991]) (i := ws.getD 3 0 / 7 % 3) (by omega) (by show _ < ((3 : Nat) : Int); omega)
      have hb2 : 5 ≤ bm ∧ bm ≤ 99991 := by
        simp only [List.mem_cons, List.not_mem_nil, or_false] at hbm
        omega
      have S3 := Same.new (o := .lst [.int 5, .int 12, .int 99991]) nlp
      have g1 : 0 ≤ ws.getD 3 0 % bm := Int.emod_nonneg _ (by omega)
      have g2 : ws.getD 3 0 % bm < bm := Int.emod_lt_of_pos _ (by omega)
      refine ⟨_, rfl, wa, _, _, _, rfl, rfl, (S2.trans S3).seq hS, at_col (a := 3) (by omega), _, _, rfl, rfl, ⟨by decide, by decide⟩, _, _, rfl, rfl, lt0 (by decide), lp, _, _, .int bm, rfl, rfl, sql upd_same, hba, _, _, rfl, rfl, (by show 0 < bm; omega), _, _, rfl, rfl, ?_⟩
      refine ⟨_, rfl, _, _, rfl, rfl, _, rfl, _, _, rfl, rfl, _, rfl, _, rfl, p2, rfl, ⟨_, sql (S3 _ _ N.at_)⟩, fun D hD => lc_list (K := K) (a := p2) (xs := d.map V.int) (fun j H' => Same H2 H' ∧ H' D = some (.lst (((d.take j).map (· % (1 + ws.getD 3 0 % bm))).map V.int)))
        ⟨S3.trans (Same.new hD), upd_same⟩ (fun j H' _ ⟨s, _⟩ => sql (s _ _ N.at_)) ?_ ?_⟩
      · rintro j v H' hv ⟨SJ, hy⟩
        obtain ⟨x, hx, rfl⟩ := get_int hv
        refine ⟨rfl, _, rfl, _, rfl, _, _, rfl, rfl, (by show 0 < 1 + ws.getD 3 0 % bm; omega), _, hy, szl (by rw [List.length_map, List.length_map, List.length_take]; omega), SJ.mut (S3.free hD), ?_⟩
        rw [upd_same, take_more hx, List.map_append, List.map_append]
        rfl
      · rintro H' ⟨SJ, hy⟩
        rw [List.length_map, List.take_length] at hy
        refine ⟨by show 5 ≤ sizeLine; decide, fun t nt => ?_⟩
        have S4 := Same.new (o := .tup [.str "clock", .int (ws.getD 0 0 % (xs.length : Nat) + 1), .int (ws.getD 1 0 % (xs.length : Nat) + 1), .int (1 + ws.getD 3 0 % bm), .ref D]) nt
        refine q (.ref t) _ (.clock a b (1 + ws.getD 3 0 % bm) (d.map (· % (1 + ws.getD 3 0 % bm)))) (S2.trans (SJ.trans S4)) ⟨t, D, rfl, by rw [← ea, ← eb]; exact upd_same, S4 _ _ hy⟩ ⟨ha, hb, by omega, fig_big (by omega), by rw [List.length_map]; exact hd1, by rw [List.length_map]; exact hd2, fun x hx => ?_⟩ fun _ => .inr ⟨_, _, _, _, rfl⟩
        obtain ⟨y, hy2, rfl⟩ := List.mem_map.mp hx
        have g3 : 0 ≤ y % (1 + ws.getD 3 0 % bm) := Int.emod_nonneg _ (by omega)
        have g4 : y % (1 + ws.getD 3 0 % bm) < 1 + ws.getD 3 0 % bm := Int.emod_lt_of_pos _ (by omega)
        exact fig_big (by omega)
    · refine ⟨_, rfl, rfl, _, rfl, iteND (fun z => by have := V.int.inj z; omega) ?_⟩
      refine ⟨by show 3 ≤ sizeLine; decide, fun lp nlp => ⟨_, rfl, lp, _, _, .str "alike", rfl, rfl, sql upd_same, atI_nat (j := 2) rfl, _, rfl, _, _, rfl, rfl, _, rfl, _, _, rfl, rfl, _, rfl, by show 4 ≤ sizeLine; decide, fun t nt => ?_⟩⟩
      have S3 := (Same.new (o := .lst [.str "span", .str "clock", .str "alike"]) nlp).trans (Same.new (o := .tup [.str "alike", .int (ws.getD 0 0 % (xs.length : Nat) + 1), .int (ws.getD 1 0 % (xs.length : Nat) + 1), .ref p2]) nt)
      exact q (.ref t) _ (.alike a b d) (S2.trans S3) ⟨t, p2, rfl, by rw [← ea, ← eb]; exact upd_same, S3 _ _ N.at_⟩ ⟨ha, hb, hd1, hd2, hdf⟩ fun h => absurd h (by decide)
end
end Fv
set_option Elab.async false
set_option linter.all false
set_option maxRecDepth 100000
set_option maxHeartbeats 4000000
/-! The law's own rules, all. -/
namespace Fv
open PySem PySem.Spec PyProof.Rows L2 _root_.TL
section
variable {P : Program} {w : World} {K : PySem.W.Frag} {mg : Str → Option Value} {base : Heap}
def sp_voice (K : PySem.W.Frag) : Sp := fun vs H Q _ => ∃ (wa ra : Addr) (ws : List Int) (rs : Rng) (kd : Int), vs = [.ref wa, .ref ra, .int kd] ∧ SqL K H wa (ws.map V.int) ∧ Drawn ws ∧ ws.length = 18 ∧ TL K H ra (rV rs) ∧ RngOk rs ∧ Small36 rs ∧ 0 ≤ kd ∧ kd ≤ 5 ∧
  ∀ v H' R, Same H H' → RT H' R v → R.ok rs.length → Q v H'
theorem ok__law_voice_rule (T : Top K mg base) : DOk P w K mg base "_law_voice_rule" 2 ["_law_ways", "_law_ranges_here", "_law_kind"] (sp_voice K) := by
  have G__law_some := ok__law_some (P := P) (w := w) T
  obtain ⟨fd, F⟩ := T.D__law_voice_rule
  refine ⟨fd, F.ok sc__law_voice_rule (fun vs H Q E h => ?_) (fun cdv A outer s H vs Q E hr h => ?_), F.bindsN fun _ _ _ _ _ _ us hl => match us, hl with | [_, _, _], _ => rfl, F.kp, T.g__law_voice_rule⟩
  · obtain ⟨wa, ra, ws, rs, kd, rfl, _⟩ := h
    rfl
  · obtain ⟨wa, ra, ws, rs, kd, rfl, hS, hd, hl, ⟨xs, hra, tx⟩, hR, h36, hk0, hk1, q⟩ := h
    have lx : xs.length = rs.length := by rw [tx.len]; exact List.length_map ..
    have hpos := hR.pos
    have hfew := hR.few
    have dw : ∀ j, j < ws.length → 0 ≤ ws.getD j 0 ∧ ws.getD j 0 < 400000 := fun j hj => by
      have e : ws[j]? = some (ws.getD j 0) := by rw [List.getD_eq_getElem?_getD, List.getElem?_eq_getElem hj]; rfl
      exact hd _ (List.mem_of_getElem? e)
    have m0 : 0 ≤ ws.getD 0 0 % (xs.length : Nat) := Int.emod_nonneg _ (by omega)
    have m1 : ws.getD 0 0 % (xs.length : Nat) < (xs.length : Nat) := Int.emod_lt_of_pos _ (by omega)
    obtain ⟨a, ea⟩ : ∃ a : Nat, ws.getD 0 0 % (xs.length : Nat) = (a : Nat) := ⟨(ws.getD 0 0 % (xs.length : Nat)).toNat, by omega⟩
    have ha : a < rs.length := by omega
    have ev : (a : Int) + 1 = 1 + ws.getD 0 0 % (xs.length : Nat) := by omega
    obtain ⟨rt, ⟨lo, hi⟩, g1, g2, g3⟩ := rng_at tx ha
    obtain ⟨_, _, oa⟩ := hR.fig _ (List.mem_of_getElem? g2)
    obtain ⟨sa0, sa1⟩ := h36 _ (List.mem_of_getElem? g2)
    rw [p36b] at sa0 sa1
    have oa : lo ≤ hi := oa
    have sa0 : lo.natAbs ≤ 1000000000000000000000000000000000000 := sa0
    have sa1 : hi.natAbs ≤ 1000000000000000000000000000000000000 := sa1
-- slots: 0 _law_ways 1 _law_ranges_here 2 _law_kind 3 _law_voice 4 _law_wide 5 _law_low 6 _law_high 7 _law_most
-- needs: _law_some
    refine ⟨_, PSs.nox (pss_cons (ps_set (i := 3) sc__law_voice_rule.nd rfl (by first | exact Or.inl rfl | exact Or.inr rfl) (pe_op op_add pe_int (pe_op op_mod (pe_ix ix_list (pv 0) pe_int (fun _ _ => rfl)) (pe_callB call_len (by rfl) T.b_len PySem.boot_len (pa_cons (pv 1) pa_nil)))))
      (pss_cons (ps_asg (pe_ix ix_list (pv 1) (pe_op op_sub (pv 3) pe_int) (fun _ _ => rfl)) (pg_tup rfl (pgs_cons (pg_name (i := 5) sc__law_voice_rule.nd rfl (by first | exact Or.inl rfl | exact Or.inr rfl)) (pgs_cons (pg_name (i := 6) sc__law_voice_rule.nd rfl (by first | exact Or.inl rfl | exact Or.inr rfl)) pgs_nil))))
      (pss_cons (ps_set (i := 4) sc__law_voice_rule.nd rfl (by first | exact Or.inl rfl | exact Or.inr rfl) (pe_op op_add (pe_op op_sub (pv 6) (pv 5)) pe_int))
      (pss_cons (ps_if (pt_cmpR op_eq (pv 2) pe_int (nomark _))
        (pss_one (ps_ret (pe_tup (pa_cons pe_str (pa_cons (pv 3) (pa_cons (dcall G__law_some (hr.mono (by decide)) (by rfl) (pa_cons (pe_slice sl_list (pv 0) (po_some pe_int) po_none) (pa_cons (pe_op op_sub pe_int (pv 4)) (pa_cons (pe_op op_sub (pe_op op_mul pe_int (pv 4)) pe_int) pa_nil)))) pa_nil))))))
        pss_nil)
      (pss_cons (ps_if (pt_cmpR op_eq (pv 2) pe_int (nomark _))
        (pss_one (ps_ret (pe_tup (pa_cons pe_str (pa_cons (pv 3) (pa_cons (pe_op op_mod (pe_ix ix_list (pv 0) pe_int (fun _ _ => rfl)) (pe_op op_add (pv 4) pe_int)) pa_nil))))))
        pss_nil)
      (pss_cons (ps_if (pt_cmpR op_eq (pv 2) pe_int (nomark _))
        (pss_one (ps_ret (pe_tup (pa_cons pe_str (pa_cons (pv 3) (pa_cons (pe_op op_add pe_int (pe_op op_mod (pe_ix ix_list (pv 0) pe_int (fun _ _ => rfl)) pe_int)) pa_nil))))))
        pss_nil)
      (pss_cons (ps_if (pt_cmpR op_eq (pv 2) pe_int (nomark _))
        (pss_cons (ps_set (i := 7) sc__law_voice_rule.nd rfl (by first | exact Or.inl rfl | exact Or.inr rfl) (pe_op op_mod (pe_ix ix_list (pv 0) pe_int (fun _ _ => rfl)) pe_int))
        (pss_one (ps_ret (pe_tup (pa_cons pe_str (pa_cons (pv 3) (pa_cons (pe_op op_add (pv 5) (pe_op op_mod (pe_ix ix_list (pv 0) pe_int (fun _ _ => rfl)) (pv 4))) (pa_cons (pe_op op_mul (pe_op op_mod (pe_ix ix_list (pv 0) pe_int (fun _ _ => rfl)) (pe_op op_add (pv 7) pe_int)) (pe_op op_mod (pe_ix ix_list (pv 0) pe_int (fun _ _ => rfl)) pe_int)) (pa_cons (pv 7) pa_nil)))))))))
        pss_nil)
      (pss_one (ps_ret (pe_tup (pa_cons (pe_ix ix_list (pe_lst (pa_cons pe_str (pa_cons pe_str pa_nil))) (pe_op op_mod (pv 2) pe_int) (fun _ _ => rfl)) (pa_cons (pv 3) (pa_cons (dcall G__law_some (hr.mono (by decide)) (by rfl) (pa_cons (pe_slice sl_list (pv 0) (po_some pe_int) po_none) (pa_cons (pv 5) (pa_cons (pv 4) pa_nil)))) pa_nil))))))))))))), ?_⟩
    refine ⟨_, rfl, wa, _, _, _, rfl, rfl, hS, at_col (a := 0) (by omega), _, rfl, _, _, rfl, .inl ⟨_, hra, rfl⟩, _, _, rfl, rfl, (by omega), _, _, rfl, rfl, ?_⟩
    refine ⟨_, rfl, _, rfl, _, _, rfl, rfl, ra, _, _, .ref rt, rfl, rfl, hra, at_of (j := a) (by omega) g1, rt, _, rfl, sqt g3, rfl, _, _, rfl, _, _, rfl, rfl, ?_⟩
    refine ⟨_, rfl, _, rfl, _, _, rfl, rfl, _, _, rfl, rfl, ?_⟩
    have hk : kd = 0 ∨ kd = 1 ∨ kd = 2 ∨ kd = 3 ∨ kd = 4 ∨ kd = 5 := by omega
    have hd4 : (cutV (ws.map V.int) (some 4) none) = (ws.drop 4).map V.int := by rw [cut_from (i := 4) _ 4 rfl, List.map_drop]
    rcases hk with rfl | rfl | rfl | rfl | rfl | rfl
    · skip
      refine ⟨_, rfl, rfl, _, rfl, iteD rfl ?_⟩
      refine ⟨_, rfl, _, rfl, 4, rfl, wa, _, rfl, hS, fun p np => ⟨_, rfl, _, _, rfl, rfl, _, rfl, _, _, rfl, rfl, .inl ⟨by decide, by decide⟩, _, _, rfl, rfl, p, ws.drop 4, 1 - (hi - lo + 1), 2 * (hi - lo + 1) - 1, rfl, sql (by rw [upd_same, hd4]), drop_drawn hd 4, by rw [List.length_drop]; omega, by omega, fun p2 H2 d N hd1 hd2 hdb => ⟨by show 3 ≤ sizeLine; decide, fun t nt => ?_⟩⟩⟩
      exact q (.ref t) _ (.move a d) (((Same.new np).trans N.same).trans (Same.new nt)) ⟨t, p2, rfl, by rw [ev]; exact upd_same, (Same.new nt) _ _ N.at_⟩ ⟨ha, hd1, hd2, fun x hx => by
        obtain ⟨h1, h2⟩ := hdb x hx
        exact fig_big (by omega)⟩
    · skip
      refine ⟨_, rfl, rfl, _, rfl, iteND (fun z => by have := V.int.inj z; omega) ⟨_, rfl, rfl, _, rfl, iteD rfl ?_⟩⟩
      have g := mod_le (dw 3 (by omega)).1 (by omega : 0 < (hi - lo + 1) + 1)
      have g2 := (dw 3 (by omega)).2
      refine ⟨_, rfl, _, rfl, wa, _, _, _, rfl, rfl, hS, at_col (a := 3) (by omega), _, rfl, _, _, rfl, rfl, _, _, rfl, rfl, (by show 0 < (hi - lo + 1) + 1; omega), by show 3 ≤ sizeLine; decide, fun t nt => ?_⟩
      exact q (.ref t) _ (.back a (ws.getD 3 0 % ((hi - lo + 1) + 1))) (Same.new nt) ⟨t, rfl, by rw [ev]; exact upd_same⟩ ⟨ha, g.1, fig_big (by omega)⟩
    · skip
      refine ⟨_, rfl, rfl, _, rfl, iteND (fun z => by have := V.int.inj z; omega) ⟨_, rfl, rfl, _, rfl, iteND (fun z => by have := V.int.inj z; omega) ⟨_, rfl, rfl, _, rfl, iteD rfl ?_⟩⟩⟩
      refine ⟨_, rfl, _, rfl, wa, _, _, _, rfl, rfl, hS, at_col (a := 3) (by omega), _, _, rfl, rfl, lt0 (by decide), _, _, rfl, rfl, by show 3 ≤ sizeLine; decide, fun t nt => ?_⟩
      exact q (.ref t) _ (.held a (1 + ws.getD 3 0 % 3)) (Same.new nt) ⟨t, rfl, by rw [ev]; exact upd_same⟩ ⟨ha, by omega, fig_big (by omega)⟩
    · skip
      refine ⟨_, rfl, rfl, _, rfl, iteND (fun z => by have := V.int.inj z; omega) ⟨_, rfl, rfl, _, rfl, iteND (fun z => by have := V.int.inj z; omega) ⟨_, rfl, rfl, _, rfl, iteND (fun z => by have := V.int.inj z; omega) ⟨_, rfl, rfl, _, rfl, iteD rfl ?_⟩⟩⟩⟩
      have g := mod_le (dw 4 (by omega)).1 (by omega : 0 < (hi - lo + 1))
      have g2 := (dw 4 (by omega)).2
      have g5 : 0 ≤ ws.getD 5 0 % (ws.getD 3 0 % 3 + 2) := Int.emod_nonneg _ (by omega)
      have g6 : ws.getD 5 0 % (ws.getD 3 0 % 3 + 2) < ws.getD 3 0 % 3 + 2 := Int.emod_lt_of_pos _ (by omega)
      have g7 : 0 ≤ ws.getD 5 0 % (ws.getD 3 0 % 3 + 2) * (ws.getD 6 0 % 2) ∧ ws.getD 5 0 % (ws.getD 3 0 % 3 + 2) * (ws.getD 6 0 % 2) ≤ 4 := by
        have h01 : ws.getD 6 0 % 2 = 0 ∨ ws.getD 6 0 % 2 = 1 := by omega
        rcases h01 with h | h
        · rw [h, Int.mul_zero]
          omega
        · rw [h, Int.mul_one]
          omega
      refine ⟨_, rfl, wa, _, _, _, rfl, rfl, hS, at_col (a := 3) (by omega), _, _, rfl, rfl, lt0 (by decide), ?_⟩
      refine ⟨_, rfl, _, rfl, _, rfl, wa, _, _, _, rfl, rfl, hS, at_col (a := 4) (by omega), _, rfl, _, _, rfl, rfl, (by show 0 < (hi - lo + 1); omega), _, _, rfl, rfl, _, rfl, wa, _, _, _, rfl, rfl, hS, at_col (a := 5) (by omega), _, rfl, _, _, rfl, rfl, _, _, rfl, rfl, (by show 0 < ws.getD 3 0 % 3 + 2; omega), _, rfl, wa, _, _, _, rfl, rfl, hS, at_col (a := 6) (by omega), _, _, rfl, rfl, lt0 (by decide), _, _, rfl, rfl, .inl ⟨by omega, by omega⟩, _, rfl, by show 5 ≤ sizeLine; decide, fun t nt => ?_⟩
      exact q (.ref t) _ (.times a (lo + ws.getD 4 0 % (hi - lo + 1)) (ws.getD 5 0 % (ws.getD 3 0 % 3 + 2) * (ws.getD 6 0 % 2)) (ws.getD 3 0 % 3)) (Same.new nt) ⟨t, rfl, by rw [ev]; exact upd_same⟩ ⟨ha, fig_big (by omega), g7.1, fig_big (by omega), by omega, fig_big (by omega)⟩
    · skip
      refine ⟨_, rfl, rfl, _, rfl, iteND (fun z => by have := V.int.inj z; omega) ⟨_, rfl, rfl, _, rfl, iteND (fun z => by have := V.int.inj z; omega) ⟨_, rfl, rfl, _, rfl, iteND (fun z => by have := V.int.inj z; omega) ⟨_, rfl, rfl, _, rfl, iteND (fun z => by have := V.int.inj z; omega) ?_⟩⟩⟩⟩
      refine ⟨by show 2 ≤ sizeLine; decide, fun lp nlp => ⟨_, rfl, _, _, rfl, rfl, lt0 (by decide), lp, _, _, .str "begin", rfl, rfl, sql upd_same, at_of (j := 0) (by decide) rfl, _, rfl, _, rfl, 4, rfl, wa, _, rfl, (Same.new nlp).seq hS, fun p np => ⟨_, rfl, _, rfl, p, ws.drop 4, lo, (hi - lo + 1), rfl, sql (by rw [upd_same, hd4]), drop_drawn hd 4, by rw [List.length_drop]; omega, by omega, fun p2 H2 d N hd1 hd2 hdb => ⟨by show 3 ≤ sizeLine; decide, fun t nt => ?_⟩⟩⟩⟩
      exact q (.ref t) _ (.beg a d) ((((Same.new nlp).trans (Same.new np)).trans N.same).trans (Same.new nt)) ⟨t, p2, rfl, by rw [ev]; exact upd_same, (Same.new nt) _ _ N.at_⟩ ⟨ha, hd1, hd2, fun x hx => by
        obtain ⟨h1, h2⟩ := hdb x hx
        exact fig_big (by omega)⟩
    · skip
      refine ⟨_, rfl, rfl, _, rfl, iteND (fun z => by have := V.int.inj z; omega) ⟨_, rfl, rfl, _, rfl, iteND (fun z => by have := V.int.inj z; omega) ⟨_, rfl, rfl, _, rfl, iteND (fun z => by have := V.int.inj z; omega) ⟨_, rfl, rfl, _, rfl, iteND (fun z => by have := V.int.inj z; omega) ?_⟩⟩⟩⟩
      refine ⟨by show 2 ≤ sizeLine; decide, fun lp nlp => ⟨_, rfl, _, _, rfl, rfl, lt0 (by decide), lp, _, _, .str "close", rfl, rfl, sql upd_same, at_of (j := 1) (by decide) rfl, _, rfl, _, rfl, 4, rfl, wa, _, rfl, (Same.new nlp).seq hS, fun p np => ⟨_, rfl, _, rfl, p, ws.drop 4, lo, (hi - lo + 1), rfl, sql (by rw [upd_same, hd4]), drop_drawn hd 4, by rw [List.length_drop]; omega, by omega, fun p2 H2 d N hd1 hd2 hdb => ⟨by show 3 ≤ sizeLine; decide, fun t nt => ?_⟩⟩⟩⟩
      exact q (.ref t) _ (.clo a d) ((((Same.new nlp).trans (Same.new np)).trans N.same).trans (Same.new nt)) ⟨t, p2, rfl, by rw [ev]; exact upd_same, (Same.new nt) _ _ N.at_⟩ ⟨ha, hd1, hd2, fun x hx => by
        obtain ⟨h1, h2⟩ := hdb x hx
        exact fig_big (by omega)⟩
def sp_law_rule (K : PySem.W.Frag) : Sp := fun vs H Q _ => ∃ (c : Int) (ra : Addr) (rs : Rng), vs = [.int c, .ref ra] ∧ TL K H ra (rV rs) ∧ RngOk rs ∧ Small36 rs ∧ ∀ v H' R, Same H H' → RT H' R v → R.ok rs.length → Q v H'
theorem ok__law_rule (T : Top K mg base) : DOk P w K mg base "_law_rule" 3 ["_law_cell", "_law_ranges_here"] (sp_law_rule K) := by
  have G__law_draws := ok__law_draws (P := P) (w := w) T
  have G__law_pair_rule := ok__law_pair_rule (P := P) (w := w) T
  have G__law_voice_rule := ok__law_voice_rule (P := P) (w := w) T
  obtain ⟨fd, F⟩ := T.D__law_rule
  refine ⟨fd, F.ok sc__law_rule (fun vs H Q E h => ?_) (fun cdv A outer s H vs Q E hr h => ?_), F.bindsN fun _ _ _ _ _ _ us hl => match us, hl with | [_, _], _ => rfl, F.kp, T.g__law_rule⟩
  · obtain ⟨c, ra, rs, rfl, _⟩ := h
    rfl
  · obtain ⟨c, ra, rs, rfl, hra, hR, h36, q⟩ := h
-- slots: 0 _law_cell 1 _law_ranges_here 2 _law_ways 3 _law_kind 4 _law_by
-- needs: _law_draws _law_pair_rule _law_voice_rule
    refine ⟨_, PSs.nox (pss_cons (ps_set (i := 2) sc__law_rule.nd rfl (by first | exact Or.inl rfl | exact Or.inr rfl) (dcall G__law_draws (hr.mono (by decide)) (by rfl) (pa_cons (pv 0) (pa_cons pe_int pa_nil))))
      (pss_cons (ps_set (i := 3) sc__law_rule.nd rfl (by first | exact Or.inl rfl | exact Or.inr rfl) (pe_op op_mod (pe_op op_fdiv (pv 0) pe_int) pe_int))
      (pss_cons (ps_if (pt_cmpR op_lt (pv 3) pe_int (nomark _))
        (pss_one (ps_ret (dcall G__law_pair_rule (hr.mono (by decide)) (by rfl) (pa_cons (pv 2) (pa_cons (pv 1) (pa_cons (pv 3) pa_nil))))))
        pss_nil)
      (pss_cons (ps_if (pt_cmpR op_lt (pv 3) pe_int (nomark _))
        (pss_one (ps_ret (dcall G__law_voice_rule (hr.mono (by decide)) (by rfl) (pa_cons (pv 2) (pa_cons (pv 1) (pa_cons (pe_op op_sub (pv 3) pe_int) pa_nil))))))
        pss_nil)
      (pss_cons (ps_set (i := 4) sc__law_rule.nd rfl (by first | exact Or.inl rfl | exact Or.inr rfl) (pe_op op_add pe_int (pe_op op_mod (pe_ix ix_list (pv 2) pe_int (fun _ _ => rfl)) pe_int)))
      (pss_one (ps_ret (pe_tup (pa_cons pe_str (pa_cons (pv 4) (pa_cons (pe_op op_mod (pe_ix ix_list (pv 2) pe_int (fun _ _ => rfl)) (pv 4)) (pa_cons (dcall G__law_pair_rule (hr.mono (by decide)) (by rfl) (pa_cons (pv 2) (pa_cons (pv 1) (pa_cons (pe_op op_mod (pe_ix ix_list (pv 2) pe_int (fun _ _ => rfl)) pe_int) pa_nil)))) pa_nil)))))))))))), ?_⟩
    refine ⟨_, rfl, c, 18, rfl, by decide, fun pw H1 ws N l1 d1 => ?_⟩
    have hS := sql (K := K) N.at_
    have S1 := N.same
    refine ⟨_, rfl, _, _, rfl, rfl, ⟨by decide, by decide⟩, _, _, rfl, rfl, lt0 (by decide), ?_⟩
    refine ⟨_, rfl, _, _, rfl, rfl, _, rfl, ite2 (fun e => ?_) (fun e => ?_)⟩
    · have e1 : c / 7 % 10 < 3 := of_decide_eq_true e
      exact ⟨_, rfl, _, rfl, _, rfl, pw, ra, ws, rs, c / 7 % 10, rfl, hS, d1, l1, hra.mono S1, hR, h36, by omega, by omega, fun v H' R S rt ok _ => q v H' R (S1.trans S) rt ok⟩
    have e1 : ¬ c / 7 % 10 < 3 := fun z => e (decide_eq_true z)
    refine ⟨_, rfl, _, _, rfl, rfl, _, rfl, ite2 (fun e => ?_) (fun e => ?_)⟩
    · have e2 : c / 7 % 10 < 9 := of_decide_eq_true e
      exact ⟨_, rfl, _, rfl, _, rfl, _, _, rfl, rfl, pw, ra, ws, rs, c / 7 % 10 - 3, rfl, hS, d1, l1, hra.mono S1, hR, h36, by omega, by omega, fun v H' R S rt ok => q v H' R (S1.trans S) rt ok⟩
    have l1 : ws.length = 18 := l1
    have g5 : 0 ≤ ws.getD 17 0 % (1 + ws.getD 16 0 % 3) := Int.emod_nonneg _ (by omega)
    have g6 : ws.getD 17 0 % (1 + ws.getD 16 0 % 3) < 1 + ws.getD 16 0 % 3 := Int.emod_lt_of_pos _ (by omega)
    refine ⟨_, rfl, pw, _, _, _, rfl, rfl, hS, at_col (a := 16) (by omega), _, _, rfl, rfl, lt0 (by decide), _, _, rfl, rfl, ?_⟩
    refine ⟨_, rfl, _, rfl, pw, _, _, _, rfl, rfl, hS, at_col (a := 17) (by omega), _, rfl, _, _, rfl, rfl, (by show 0 < 1 + ws.getD 16 0 % 3; omega), _, rfl, _, rfl, _, rfl, pw, _, _, _, rfl, rfl, hS, at_col (a := 2) (by omega), _, _, rfl, rfl, lt0 (by decide), pw, ra, ws, rs, ws.getD 2 0 % 2, rfl, hS, d1, l1, hra.mono S1, hR, h36, by omega, by omega, fun v H' R S rt ok hin => ⟨by show 4 ≤ sizeLine; decide, fun t nt => ?_⟩⟩
    exact q (.ref t) _ (.ev (1 + ws.getD 16 0 % 3) (ws.getD 17 0 % (1 + ws.getD 16 0 % 3)) R) (S1.trans (S.trans (Same.new nt))) ⟨t, v, rfl, upd_same, rt.fk (FK.of (Same.new nt)) ok⟩ ⟨by omega, fig_big (by omega), g5, g6, hin (by omega), ok⟩
def sp_law_size : Sp := fun vs H Q _ => ∃ (v : V) (R : RK), vs = [v] ∧ RT H R v ∧ Q (.int R.size) H
theorem ok__law_size (T : Top K mg base) : DOk P w K mg base "_law_size" 1 ["_law_rule_here"] sp_law_size := by
  obtain ⟨fd, F⟩ := T.D__law_size
  refine ⟨fd, F.ok sc__law_size (fun vs H Q E h => ?_) (fun cdv A outer s H vs Q E hr h => ?_), F.bindsN fun _ _ _ _ _ _ us hl => match us, hl with | [_], _ => rfl, F.kp, T.g__law_size⟩
  · obtain ⟨v, R, rfl, _⟩ := h
    rfl
  · obtain ⟨v, R, rfl, hR, q⟩ := h
    obtain ⟨t0, rfl⟩ := RT.ref hR
-- slots: 0 _law_rule_here
-- needs: 
    refine ⟨_, PSs.nox (pss_cons (ps_if (pt_cmpR op_eq (pe_ix ix_tup (pv 0) pe_int (fun _ _ => rfl)) pe_str (nomark _))
        (pss_one (ps_ret (pe_ix ix_tup (pv 0) pe_int (fun _ _ => rfl))))
        pss_nil)
      (pss_cons (ps_if (pt_cmpR op_eq (pe_ix ix_tup (pv 0) pe_int (fun _ _ => rfl)) pe_str (nomark _))
        (pss_one (ps_ret (pe_op op_add (pe_ix ix_tup (pv 0) pe_int (fun _ _ => rfl)) pe_int)))
        pss_nil)
      (pss_cons (ps_if (pt_cmpR op_eq (pe_ix ix_tup (pv 0) pe_int (fun _ _ => rfl)) pe_str (nomark _))
        (pss_one (ps_ret (pe_ix ix_tup (pv 0) pe_int (fun _ _ => rfl))))
        pss_nil)
      (pss_one (ps_ret (pe_op op_add pe_int (pe_op op_mul pe_int (pe_callTy call_int1 (by rfl) T.b_int (by decide +kernel) (pa_cons (pe_cmpR op_eq (pe_ix ix_tup (pv 0) pe_int (fun _ _ => rfl)) pe_str (nomark _)) pa_nil))))))))), ?_⟩
    match R, hR, q with
    | .span a b d, ⟨t, qa, e, h1, h2⟩, q =>
      cases e
      exact ⟨_, rfl, _, _, _, .str "span", rfl, rfl, sqt h1, atI_nat (j := 0) rfl, rfl, _, rfl, iteND (kne (a := "span") (by decide +kernel)) ⟨_, rfl, _, _, _, .str "span", rfl, rfl, sqt h1, atI_nat (j := 0) rfl, rfl, _, rfl, iteND (kne (a := "span") (by decide +kernel)) ⟨_, rfl, _, _, _, .str "span", rfl, rfl, sqt h1, atI_nat (j := 0) rfl, rfl, _, rfl, iteND (kne (a := "span") (by decide +kernel)) ⟨_, rfl, _, _, _, .str "span", rfl, rfl, sqt h1, atI_nat (j := 0) rfl, rfl, .inr ⟨_, rfl, _, _, rfl, rfl, .inl ⟨by decide, by decide⟩, _, _, rfl, rfl, Eq.mp (congrArg (fun z => Q (.int z) H) (show (1 : Int) = 1 + 2 * (if decide (V.str ("span" : Str) = V.str ("back" : Str)) = true then (1 : Int) else 0) by decide +kernel)) q⟩⟩⟩⟩⟩
    | .clock a b m d, ⟨t, qa, e, h1, h2⟩, q =>
      cases e
      exact ⟨_, rfl, _, _, _, .str "clock", rfl, rfl, sqt h1, atI_nat (j := 0) rfl, rfl, _, rfl, iteND (kne (a := "clock") (by decide +kernel)) ⟨_, rfl, _, _, _, .str "clock", rfl, rfl, sqt h1, atI_nat (j := 0) rfl, rfl, _, rfl, iteND (kne (a := "clock") (by decide +kernel)) ⟨_, rfl, _, _, _, .str "clock", rfl, rfl, sqt h1, atI_nat (j := 0) rfl, rfl, _, rfl, iteND (kne (a := "clock") (by decide +kernel)) ⟨_, rfl, _, _, _, .str "clock", rfl, rfl, sqt h1, atI_nat (j := 0) rfl, rfl, .inr ⟨_, rfl, _, _, rfl, rfl, .inl ⟨by decide, by decide⟩, _, _, rfl, rfl, Eq.mp (congrArg (fun z => Q (.int z) H) (show (1 : Int) = 1 + 2 * (if decide (V.str ("clock" : Str) = V.str ("back" : Str)) = true then (1 : Int) else 0) by decide +kernel)) q⟩⟩⟩⟩⟩
    | .alike a b d, ⟨t, qa, e, h1, h2⟩, q =>
      cases e
      exact ⟨_, rfl, _, _, _, .str "alike", rfl, rfl, sqt h1, atI_nat (j := 0) rfl, rfl, _, rfl, iteND (kne (a := "alike") (by decide +kernel)) ⟨_, rfl, _, _, _, .str "alike", rfl, rfl, sqt h1, atI_nat (j := 0) rfl, rfl, _, rfl, iteND (kne (a := "alike") (by decide +kernel)) ⟨_, rfl, _, _, _, .str "alike", rfl, rfl, sqt h1, atI_nat (j := 0) rfl, rfl, _, rfl, iteND (kne (a := "alike") (by decide +kernel)) ⟨_, rfl, _, _, _, .str "alike", rfl, rfl, sqt h1, atI_nat (j := 0) rfl, rfl, .inr ⟨_, rfl, _, _, rfl, rfl, .inl ⟨by decide, by decide⟩, _, _, rfl, rfl, Eq.mp (congrArg (fun z => Q (.int z) H) (show (1 : Int) = 1 + 2 * (if decide (V.str ("alike" : Str) = V.str ("back" : Str)) = true then (1 : Int) else 0) by decide +kernel)) q⟩⟩⟩⟩⟩
    | .move x d, ⟨t, qa, e, h1, h2⟩, q =>
      cases e
      exact ⟨_, rfl, _, _, _, .str "move", rfl, rfl, sqt h1, atI_nat (j := 0) rfl, rfl, _, rfl, iteND (kne (a := "move") (by decide +kernel)) ⟨_, rfl, _, _, _, .str "move", rfl, rfl, sqt h1, atI_nat (j := 0) rfl, rfl, _, rfl, iteND (kne (a := "move") (by decide +kernel)) ⟨_, rfl, _, _, _, .str "move", rfl, rfl, sqt h1, atI_nat (j := 0) rfl, rfl, _, rfl, iteND (kne (a := "move") (by decide +kernel)) ⟨_, rfl, _, _, _, .str "move", rfl, rfl, sqt h1, atI_nat (j := 0) rfl, rfl, .inr ⟨_, rfl, _, _, rfl, rfl, .inl ⟨by decide, by decide⟩, _, _, rfl, rfl, Eq.mp (congrArg (fun z => Q (.int z) H) (show (1 : Int) = 1 + 2 * (if decide (V.str ("move" : Str) = V.str ("back" : Str)) = true then (1 : Int) else 0) by decide +kernel)) q⟩⟩⟩⟩⟩
    | .beg x d, ⟨t, qa, e, h1, h2⟩, q =>
      cases e
      exact ⟨_, rfl, _, _, _, .str "begin", rfl, rfl, sqt h1, atI_nat (j := 0) rfl, rfl, _, rfl, iteND (kne (a := "begin") (by decide +kernel)) ⟨_, rfl, _, _, _, .str "begin", rfl, rfl, sqt h1, atI_nat (j := 0) rfl, rfl, _, rfl, iteND (kne (a := "begin") (by decide +kernel)) ⟨_, rfl, _, _, _, .str "begin", rfl, rfl, sqt h1, atI_nat (j := 0) rfl, rfl, _, rfl, iteND (kne (a := "begin") (by decide +kernel)) ⟨_, rfl, _, _, _, .str "begin", rfl, rfl, sqt h1, atI_nat (j := 0) rfl, rfl, .inr ⟨_, rfl, _, _, rfl, rfl, .inl ⟨by decide, by decide⟩, _, _, rfl, rfl, Eq.mp (congrArg (fun z => Q (.int z) H) (show (1 : Int) = 1 + 2 * (if decide (V.str ("begin" : Str) = V.str ("back" : Str)) = true then (1 : Int) else 0) by decide +kernel)) q⟩⟩⟩⟩⟩
    | .clo x d, ⟨t, qa, e, h1, h2⟩, q =>
      cases e
      exact ⟨_, rfl, _, _, _, .str "close", rfl, rfl, sqt h1, atI_nat (j := 0) rfl, rfl, _, rfl, iteND (kne (a := "close") (by decide +kernel)) ⟨_, rfl, _, _, _, .str "close", rfl, rfl, sqt h1, atI_nat (j := 0) rfl, rfl, _, rfl, iteND (kne (a := "close") (by decide +kernel)) ⟨_, rfl, _, _, _, .str "close", rfl, rfl, sqt h1, atI_nat (j := 0) rfl, rfl, _, rfl, iteND (kne (a := "close") (by decide +kernel)) ⟨_, rfl, _, _, _, .str "close", rfl, rfl, sqt h1, atI_nat (j := 0) rfl, rfl, .inr ⟨_, rfl, _, _, rfl, rfl, .inl ⟨by decide, by decide⟩, _, _, rfl, rfl, Eq.mp (congrArg (fun z => Q (.int z) H) (show (1 : Int) = 1 + 2 * (if decide (V.str ("close" : Str) = V.str ("back" : Str)) = true then (1 : Int) else 0) by decide +kernel)) q⟩⟩⟩⟩⟩
    | .back x d, ⟨t, e, h1⟩, q =>
      cases e
      exact ⟨_, rfl, _, _, _, .str "back", rfl, rfl, sqt h1, atI_nat (j := 0) rfl, rfl, _, rfl, iteND (kne (a := "back") (by decide +kernel)) ⟨_, rfl, _, _, _, .str "back", rfl, rfl, sqt h1, atI_nat (j := 0) rfl, rfl, _, rfl, iteND (kne (a := "back") (by decide +kernel)) ⟨_, rfl, _, _, _, .str "back", rfl, rfl, sqt h1, atI_nat (j := 0) rfl, rfl, _, rfl, iteND (kne (a := "back") (by decide +kernel)) ⟨_, rfl, _, _, _, .str "back", rfl, rfl, sqt h1, atI_nat (j := 0) rfl, rfl, .inr ⟨_, rfl, _, _, rfl, rfl, .inl ⟨by decide, by decide⟩, _, _, rfl, rfl, Eq.mp (congrArg (fun z => Q (.int z) H) (show (3 : Int) = 1 + 2 * (if decide (V.str ("back" : Str) = V.str ("back" : Str)) = true then (1 : Int) else 0) by decide +kernel)) q⟩⟩⟩⟩⟩
    | .held x k, ⟨t, e, h1⟩, q =>
      cases e
      exact ⟨_, rfl, _, _, _, .str "held", rfl, rfl, sqt h1, atI_nat (j := 0) rfl, rfl, _, rfl, iteD rfl ⟨_, rfl, _, _, _, .int k, rfl, rfl, sqt h1, atI_nat (j := 2) rfl, q⟩⟩
    | .times x y lo hi, ⟨t, e, h1⟩, q =>
      cases e
      exact ⟨_, rfl, _, _, _, .str "times", rfl, rfl, sqt h1, atI_nat (j := 0) rfl, rfl, _, rfl, iteND (kne (a := "times") (by decide +kernel)) ⟨_, rfl, _, _, _, .str "times", rfl, rfl, sqt h1, atI_nat (j := 0) rfl, rfl, _, rfl, iteD rfl ⟨_, rfl, _, _, _, .int hi, rfl, rfl, sqt h1, atI_nat (j := 4) rfl, _, _, rfl, rfl, q⟩⟩⟩
    | .ev m r i, ⟨t, u, e, h1, h2⟩, q =>
      cases e
      exact ⟨_, rfl, _, _, _, .str "every", rfl, rfl, sqt h1, atI_nat (j := 0) rfl, rfl, _, rfl, iteND (kne (a := "every") (by decide +kernel)) ⟨_, rfl, _, _, _, .str "every", rfl, rfl, sqt h1, atI_nat (j := 0) rfl, rfl, _, rfl, iteND (kne (a := "every") (by decide +kernel)) ⟨_, rfl, _, _, _, .str "every", rfl, rfl, sqt h1, atI_nat (j := 0) rfl, rfl, _, rfl, iteD rfl ⟨_, rfl, _, _, _, .int m, rfl, rfl, sqt h1, atI_nat (j := 1) rfl, q⟩⟩⟩⟩
def sp_law_rules (K : PySem.W.Frag) : Sp := fun vs H Q _ => ∃ (sa ra : Addr) (ns : List Int) (rs : Rng), vs = [.ref sa, .ref ra, .int 36] ∧ SqL K H sa (ns.map V.int) ∧ TL K H ra (rV rs) ∧ RngOk rs ∧ Small36 rs ∧ prodI (rs.map wid) ≤ 12 ∧
  ∀ p H' xs Rs, Same H H' → H p = none → H' p = some (.lst xs) → RTs H' xs Rs → RulesOk rs.length Rs → prodI (rs.map wid) * prodI (Rs.map RK.size) ≤ 36 → Q (.ref p) H'
theorem ok__law_rules (T : Top K mg base) : DOk P w K mg base "_law_rules" 4 ["_law_script", "_law_ranges_here", "_law_cap"] (sp_law_rules K) := by
  have G__law_columns := ok__law_columns (P := P) (w := w) T
  have G__law_at := ok__law_at (P := P) (w := w) T
  have G__law_rule := ok__law_rule (P := P) (w := w) T
  have G__law_size := ok__law_size (P := P) (w := w) T
  obtain ⟨fd, F⟩ := T.D__law_rules
  refine ⟨fd, F.ok sc__law_rules (fun vs H Q E h => ?_) (fun cdv A outer s H vs Q E hr h => ?_), F.bindsN fun _ _ _ _ _ _ us hl => match us, hl with | [_, _, _], _ => rfl, F.kp, T.g__law_rules⟩
  · obtain ⟨sa, ra, ns, rs, rfl, _⟩ := h
    rfl
  · obtain ⟨sa, ra, ns, rs, rfl, hS, hra, hR, h36, h12, q⟩ := h
    have hwp := wids_pos fun r hr => (hR.fig r hr).2.2
    have hP := prod_pos hwp
-- slots: 0 _law_script 1 _law_ranges_here 2 _law_cap 3 _law_weight_of 4 _law_many 5 _law_found 6 _law_k 7 _law_cell 8 _law_rule_here
-- needs: _law_columns _law_at _law_rule _law_size
    refine ⟨_, PSs.nox (pss_cons (ps_set (i := 3) sc__law_rules.nd rfl (by first | exact Or.inl rfl | exact Or.inr rfl) (pe_callB call_len (by rfl) T.b_len PySem.boot_len (pa_cons (dcall G__law_columns (hr.mono (by decide)) (by rfl) (pa_cons (pv 1) pa_nil)) pa_nil)))
      (pss_cons (ps_set (i := 4) sc__law_rules.nd rfl (by first | exact Or.inl rfl | exact Or.inr rfl) (pe_op op_mod (dcall G__law_at (hr.mono (by decide)) (by rfl) (pa_cons (pv 0) (pa_cons pe_int pa_nil))) pe_int))
      (pss_cons (ps_if (pt_cmpR op_eq (pe_op op_mod (pe_op op_fdiv (dcall G__law_at (hr.mono (by decide)) (by rfl) (pa_cons (pv 0) (pa_cons pe_int pa_nil))) pe_int) pe_int) pe_int (nomark _))
        (pss_one (ps_set (i := 4) sc__law_rules.nd rfl (by first | exact Or.inl rfl | exact Or.inr rfl) (pe_op op_add pe_int (pe_op op_mod (pe_op op_fdiv (dcall G__law_at (hr.mono (by decide)) (by rfl) (pa_cons (pv 0) (pa_cons pe_int pa_nil))) pe_int) pe_int))))
        pss_nil)
      (pss_cons (ps_set (i := 5) sc__law_rules.nd rfl (by first | exact Or.inl rfl | exact Or.inr rfl) (pe_lst pa_nil))
      (pss_cons (ps_for PassesOwn.never rfl (pi_range1 (by rfl) T.b_range (pa_cons (pv 4) pa_nil)) (pg_name (i := 6) sc__law_rules.nd rfl (by first | exact Or.inl rfl | exact Or.inr rfl))
        (pss_cons (ps_set (i := 7) sc__law_rules.nd rfl (by first | exact Or.inl rfl | exact Or.inr rfl) (dcall G__law_at (hr.mono (by decide)) (by rfl) (pa_cons (pv 0) (pa_cons (pe_op op_add pe_int (pe_op op_mod (pv 6) pe_int)) pa_nil))))
        (pss_cons (ps_if (pt_cmpR op_gt (pv 6) pe_int (nomark _))
          (pss_one (ps_set (i := 7) sc__law_rules.nd rfl (by first | exact Or.inl rfl | exact Or.inr rfl) (pe_op op_add (pe_op op_fdiv (pv 7) pe_int) (pe_op op_mul (pe_op op_mul pe_int (pv 6)) (pv 6)))))
          pss_nil)
        (pss_cons (ps_set (i := 8) sc__law_rules.nd rfl (by first | exact Or.inl rfl | exact Or.inr rfl) (dcall G__law_rule (hr.mono (by decide)) (by rfl) (pa_cons (pv 7) (pa_cons (pv 1) pa_nil))))
        (pss_one (ps_if (pt_cmpR op_le (pe_op op_mul (pv 3) (dcall G__law_size (hr.mono (by decide)) (by rfl) (pa_cons (pv 8) pa_nil))) (pv 2) (nomark _))
          (pss_cons (ps_set (i := 3) sc__law_rules.nd rfl (by first | exact Or.inl rfl | exact Or.inr rfl) (pe_op op_mul (pv 3) (dcall G__law_size (hr.mono (by decide)) (by rfl) (pa_cons (pv 8) pa_nil))))
          (pss_one (ps_expr (pe_bm PySem.F.plainAttrs_list PySem.F.slot_list_append PySem.F.type_list_append mt_append (pv 5) (pa_cons (pv 8) pa_nil)))))
          pss_nil))))))
      (pss_one (ps_ret (pv 5)))))))), ?_⟩
    refine ⟨_, rfl, ra, rs, rfl, hra, small_of hR (by omega), fun pc H1 N1 => ?_⟩
    obtain ⟨S1, npc, cxs, hpc, tpc⟩ := N1
    have lc : ((cxs.length : Nat) : Int) = prodI (rs.map wid) := by
      rw [tpc.len]
      unfold cV
      rw [List.length_map]
      exact cols_count fun r hr => (hR.fig r hr).2.2
    refine ⟨_, _, rfl, .inl ⟨_, sql hpc, rfl⟩, ?_⟩
    refine ⟨_, rfl, sa, ns, 3, rfl, S1.seq hS, _, _, rfl, rfl, lt0 (by decide), ?_⟩
    refine ⟨_, rfl, sa, ns, 3, rfl, S1.seq hS, _, _, rfl, rfl, ⟨by decide, by decide⟩, _, _, rfl, rfl, lt0 (by decide), rfl, _, rfl, ite2 (fun _ => ?_) (fun _ => ?_)⟩
    · refine ⟨_, rfl, sa, ns, 3, rfl, S1.seq hS, _, _, rfl, rfl, ⟨by decide, by decide⟩, _, _, rfl, rfl, lt0 (by decide), _, _, rfl, rfl, ?_⟩
      refine ⟨Nat.zero_le _, fun p np => ?_⟩
      have npH : H p = none := S1.free np
      refine ⟨_, rfl, 5 + atD ns 3 / 40 % 8, rfl, by omega, by omega, for_range (lo := 0) (n := (5 + atD ns 3 / 40 % 8).toNat) (fun i σ H' => ∃ (W : Int) (x6 x7 x8 : Option V) (xs : List V) (Rs : List RK), σ = [some (.ref sa), some (.ref ra), some (.int 36), some (.int W), some (.int (5 + atD ns 3 / 40 % 8)), some (.ref p), x6, x7, x8] ∧ Same H H' ∧ H' p = some (.lst xs) ∧ RTs H' xs Rs ∧
          (∀ R ∈ Rs, R.ok rs.length) ∧ Rs.length ≤ i ∧ W = prodI (rs.map wid) * prodI (Rs.map RK.size) ∧ W ≤ 36)
        ⟨_, none, none, none, [], [], rfl, S1.trans (Same.new np), upd_same, .nil, (fun R hR => nomatch hR), Nat.le_refl _, by rw [lc]; exact (Int.mul_one _).symm, by omega⟩ ?_ ?_⟩
      · rintro i σ H' hi ⟨W, x6, x7, x8, xs, Rs, rfl, SI, hp, hxs, hok, hl, hW, hW2⟩
        have hW1 : 1 ≤ W := by
          have h1 : 1 ≤ prodI (Rs.map RK.size) := prod_pos fun x hx => by
            obtain ⟨R, hR2, rfl⟩ := List.mem_map.mp hx
            exact RK.size_pos (hok R hR2)
          have := Int.mul_le_mul hP h1 (by omega) (by omega)
          omega
        refine ⟨_, rfl, _, rfl, _, _, rfl, rfl, lt0 (by decide), _, _, rfl, rfl, sa, ns, 4 + i % 4, congrArg (fun z => [V.ref sa, V.int z]) (by show (4 : Int) + (0 + (i : Nat)) % 4 = ((4 + i % 4 : Nat) : Int); omega), SI.seq hS, ?_⟩
        refine ⟨_, rfl, _, _, rfl, rfl, _, rfl, ite2 (fun _ => ?_) (fun _ => ?_)⟩
        · refine ⟨_, rfl, _, _, rfl, rfl, ⟨by decide, by decide⟩, _, rfl, _, _, rfl, rfl, .inl ⟨by decide, by decide⟩, _, rfl, _, _, rfl, rfl, .inr ⟨by omega, by omega⟩, _, _, rfl, rfl, ?_⟩
          refine ⟨_, rfl, _, rfl, _, ra, rs, rfl, hra.mono SI, hR, h36, fun v H2 R S2 rt ok => ?_⟩
          have hsz := RK.size_pos ok
          have hp2 := S2 _ _ hp
          have fk2 := FK.of S2
          refine ⟨_, rfl, _, rfl, v, R, rfl, rt, _, _, rfl, rfl, .inl ⟨by omega, by omega⟩, _, rfl, _, _, rfl, rfl, _, rfl, ite2 (fun e => ?_) (fun e => ?_)⟩
          · have e1 : W * R.size ≤ 36 := of_decide_eq_true e
            refine ⟨_, rfl, _, rfl, v, R, rfl, rt, _, _, rfl, rfl, .inl ⟨by omega, by omega⟩, ?_⟩
            have fk3 := FK.upd (o := .lst (xs ++ [v])) hp2 hxs.refs
            refine ⟨_, rfl, .inl ⟨rfl, _, sql hp2⟩, _, rfl, p, xs, v, rfl, rfl, hp2, szl (by rw [hxs.len]; omega), ?_⟩
            refine ⟨W * R.size, some (.int (0 + (i : Nat))), some _, some v, xs ++ [v], Rs ++ [R], rfl, (SI.trans S2).mut npH, upd_same, paired_snoc (R := fun z S => RT (upd H2 p (.lst (xs ++ [v]))) S z) (x := v) (y := R) (RT.fk fk3 ok rt) (RTs.fk fk3 hok (RTs.fk fk2 hok hxs)), ?_, ?_, ?_, e1⟩
            · intro R2 h2
              rcases List.mem_append.mp h2 with h2 | h2
              · exact hok R2 h2
              · rw [List.mem_singleton.mp h2]
                exact ok
            · rw [List.length_append, List.length_singleton]
              omega
            · rw [List.map_append, prod_append, show prodI ([R].map RK.size) = R.size from Int.one_mul _, hW, Int.mul_assoc]
          · exact ⟨W, some (.int (0 + (i : Nat))), some _, some v, xs, Rs, rfl, SI.trans S2, hp2, hxs.fk fk2 hok, hok, by omega, hW, hW2⟩
        · skip
          refine ⟨_, rfl, _, rfl, _, ra, rs, rfl, hra.mono SI, hR, h36, fun v H2 R S2 rt ok => ?_⟩
          have hsz := RK.size_pos ok
          have hp2 := S2 _ _ hp
          have fk2 := FK.of S2
          refine ⟨_, rfl, _, rfl, v, R, rfl, rt, _, _, rfl, rfl, .inl ⟨by omega, by omega⟩, _, rfl, _, _, rfl, rfl, _, rfl, ite2 (fun e => ?_) (fun e => ?_)⟩
          · have e1 : W * R.size ≤ 36 := of_decide_eq_true e
            refine ⟨_, rfl, _, rfl, v, R, rfl, rt, _, _, rfl, rfl, .inl ⟨by omega, by omega⟩, ?_⟩
            have fk3 := FK.upd (o := .lst (xs ++ [v])) hp2 hxs.refs
            refine ⟨_, rfl, .inl ⟨rfl, _, sql hp2⟩, _, rfl, p, xs, v, rfl, rfl, hp2, szl (by rw [hxs.len]; omega), ?_⟩
            refine ⟨W * R.size, some (.int (0 + (i : Nat))), some _, some v, xs ++ [v], Rs ++ [R], rfl, (SI.trans S2).mut npH, upd_same, paired_snoc (R := fun z S => RT (upd H2 p (.lst (xs ++ [v]))) S z) (x := v) (y := R) (RT.fk fk3 ok rt) (RTs.fk fk3 hok (RTs.fk fk2 hok hxs)), ?_, ?_, ?_, e1⟩
            · intro R2 h2
              rcases List.mem_append.mp h2 with h2 | h2
              · exact hok R2 h2
              · rw [List.mem_singleton.mp h2]
                exact ok
            · rw [List.length_append, List.length_singleton]
              omega
            · rw [List.map_append, prod_append, show prodI ([R].map RK.size) = R.size from Int.one_mul _, hW, Int.mul_assoc]
          · exact ⟨W, some (.int (0 + (i : Nat))), some _, some v, xs, Rs, rfl, SI.trans S2, hp2, hxs.fk fk2 hok, hok, by omega, hW, hW2⟩
      · rintro σ H' ⟨W, x6, x7, x8, xs, Rs, rfl, SI, hp, hxs, hok, hl, hW, hW2⟩
        exact ⟨_, rfl, q p H' xs Rs SI npH hp hxs ⟨hok, by omega⟩ (by omega)⟩
    · skip
      refine ⟨Nat.zero_le _, fun p np => ?_⟩
      have npH : H p = none := S1.free np
      refine ⟨_, rfl, atD ns 3 % 5, rfl, by omega, by omega, for_range (lo := 0) (n := (atD ns 3 % 5).toNat) (fun i σ H' => ∃ (W : Int) (x6 x7 x8 : Option V) (xs : List V) (Rs : List RK), σ = [some (.ref sa), some (.ref ra), some (.int 36), some (.int W), some (.int (atD ns 3 % 5)), some (.ref p), x6, x7, x8] ∧ Same H H' ∧ H' p = some (.lst xs) ∧ RTs H' xs Rs ∧
          (∀ R ∈ Rs, R.ok rs.length) ∧ Rs.length ≤ i ∧ W = prodI (rs.map wid) * prodI (Rs.map RK.size) ∧ W ≤ 36)
        ⟨_, none, none, none, [], [], rfl, S1.trans (Same.new np), upd_same, .nil, (fun R hR => nomatch hR), Nat.le_refl _, by rw [lc]; exact (Int.mul_one _).symm, by omega⟩ ?_ ?_⟩
      · rintro i σ H' hi ⟨W, x6, x7, x8, xs, Rs, rfl, SI, hp, hxs, hok, hl, hW, hW2⟩
        have hW1 : 1 ≤ W := by
          have h1 : 1 ≤ prodI (Rs.map RK.size) := prod_pos fun x hx => by
            obtain ⟨R, hR2, rfl⟩ := List.mem_map.mp hx
            exact RK.size_pos (hok R hR2)
          have := Int.mul_le_mul hP h1 (by omega) (by omega)
          omega
        refine ⟨_, rfl, _, rfl, _, _, rfl, rfl, lt0 (by decide), _, _, rfl, rfl, sa, ns, 4 + i % 4, congrArg (fun z => [V.ref sa, V.int z]) (by show (4 : Int) + (0 + (i : Nat)) % 4 = ((4 + i % 4 : Nat) : Int); omega), SI.seq hS, ?_⟩
        refine ⟨_, rfl, _, _, rfl, rfl, _, rfl, ite2 (fun _ => ?_) (fun _ => ?_)⟩
        · refine ⟨_, rfl, _, _, rfl, rfl, ⟨by decide, by decide⟩, _, rfl, _, _, rfl, rfl, .inl ⟨by decide, by decide⟩, _, rfl, _, _, rfl, rfl, .inr ⟨by omega, by omega⟩, _, _, rfl, rfl, ?_⟩
          refine ⟨_, rfl, _, rfl, _, ra, rs, rfl, hra.mono SI, hR, h36, fun v H2 R S2 rt ok => ?_⟩
          have hsz := RK.size_pos ok
          have hp2 := S2 _ _ hp
          have fk2 := FK.of S2
          refine ⟨_, rfl, _, rfl, v, R, rfl, rt, _, _, rfl, rfl, .inl ⟨by omega, by omega⟩, _, rfl, _, _, rfl, rfl, _, rfl, ite2 (fun e => ?_) (fun e => ?_)⟩
          · have e1 : W * R.size ≤ 36 := of_decide_eq_true e
            refine ⟨_, rfl, _, rfl, v, R, rfl, rt, _, _, rfl, rfl, .inl ⟨by omega, by omega⟩, ?_⟩
            have fk3 := FK.upd (o := .lst (xs ++ [v])) hp2 hxs.refs
            refine ⟨_, rfl, .inl ⟨rfl, _, sql hp2⟩, _, rfl, p, xs, v, rfl, rfl, hp2, szl (by rw [hxs.len]; omega), ?_⟩
            refine ⟨W * R.size, some (.int (0 + (i : Nat))), some _, some v, xs ++ [v], Rs ++ [R], rfl, (SI.trans S2).mut npH, upd_same, paired_snoc (R := fun z S => RT (upd H2 p (.lst (xs ++ [v]))) S z) (x := v) (y := R) (RT.fk fk3 ok rt) (RTs.fk fk3 hok (RTs.fk fk2 hok hxs)), ?_, ?_, ?_, e1⟩
            · intro R2 h2
              rcases List.mem_append.mp h2 with h2 | h2
              · exact hok R2 h2
              · rw [List.mem_singleton.mp h2]
                exact ok
            · rw [List.length_append, List.length_singleton]
              omega
            · rw [List.map_append, prod_append, show prodI ([R].map RK.size) = R.size from Int.one_mul _, hW, Int.mul_assoc]
          · exact ⟨W, some (.int (0 + (i : Nat))), some _, some v, xs, Rs, rfl, SI.trans S2, hp2, hxs.fk fk2 hok, hok, by omega, hW, hW2⟩
        · skip
          refine ⟨_, rfl, _, rfl, _, ra, rs, rfl, hra.mono SI, hR, h36, fun v H2 R S2 rt ok => ?_⟩
          have hsz := RK.size_pos ok
          have hp2 := S2 _ _ hp
          have fk2 := FK.of S2
          refine ⟨_, rfl, _, rfl, v, R, rfl, rt, _, _, rfl, rfl, .inl ⟨by omega, by omega⟩, _, rfl, _, _, rfl, rfl, _, rfl, ite2 (fun e => ?_) (fun e => ?_)⟩
          · have e1 : W * R.size ≤ 36 := of_decide_eq_true e
            refine ⟨_, rfl, _, rfl, v, R, rfl, rt, _, _, rfl, rfl, .inl ⟨by omega, by omega⟩, ?_⟩
            have fk3 := FK.upd (o := .lst (xs ++ [v])) hp2 hxs.refs
            refine ⟨_, rfl, .inl ⟨rfl, _, sql hp2⟩, _, rfl, p, xs, v, rfl, rfl, hp2, szl (by rw [hxs.len]; omega), ?_⟩
            refine ⟨W * R.size, some (.int (0 + (i : Nat))), some _, some v, xs ++ [v], Rs ++ [R], rfl, (SI.trans S2).mut npH, upd_same, paired_snoc (R := fun z S => RT (upd H2 p (.lst (xs ++ [v]))) S z) (x := v) (y := R) (RT.fk fk3 ok rt) (RTs.fk fk3 hok (RTs.fk fk2 hok hxs)), ?_, ?_, ?_, e1⟩
            · intro R2 h2
              rcases List.mem_append.mp h2 with h2 | h2
              · exact hok R2 h2
              · rw [List.mem_singleton.mp h2]
                exact ok
            · rw [List.length_append, List.length_singleton]
              omega
            · rw [List.map_append, prod_append, show prodI ([R].map RK.size) = R.size from Int.one_mul _, hW, Int.mul_assoc]
          · exact ⟨W, some (.int (0 + (i : Nat))), some _, some v, xs, Rs, rfl, SI.trans S2, hp2, hxs.fk fk2 hok, hok, by omega, hW, hW2⟩
      · rintro σ H' ⟨W, x6, x7, x8, xs, Rs, rfl, SI, hp, hxs, hok, hl, hW, hW2⟩
        exact ⟨_, rfl, q p H' xs Rs SI npH hp hxs ⟨hok, by omega⟩ (by omega)⟩
end
end Fv
set_option Elab.async false
set_option linter.all false
set_option maxRecDepth 100000
set_option maxHeartbeats 4000000
/-! The law's own text of a score. -/
namespace Fv
open PySem PySem.Spec PyProof.Rows L2 _root_.TL
/-- a part of a rule's tuple and its words -/
inductive PV (H : Hp) : V → List Str → Prop
  | str (a : Str) : PV H (.str a) [a]
  | int (n : Int) (h : Fig n) : PV H (.int n) [nS n]
  | lst {q : Addr} {d : List Int} (h : H q = some (.lst (d.map V.int))) (hd : ∀ x ∈ d, Fig x) : PV H (.ref q) (d.map nS)
theorem PV.mono {H H' : Hp} {v : V} {ws : List Str} (s : Same H H') (h : PV H v ws) : PV H' v ws := by
  cases h with
  | str a => exact .str a
  | int n h => exact .int n h
  | lst h hd => exact .lst (s _ _ h) hd
theorem pvs_mono {H H' : Hp} {vs : List V} {wss : List (List Str)} (s : Same H H') (h : Paired (PV H) vs wss) : Paired (PV H') vs wss := by
  induction h with
  | nil => exact .nil
  | cons r t ih => exact .cons (r.mono s) ih
/-- the words of a whole tuple are few and short -/
structure WsOk (vs : List V) (wss : List (List Str)) : Prop where
  few : wss.flatten.length ≤ 100
  short : ∀ z ∈ wss.flatten, z.length ≤ 2000
  nine : vs.length ≤ 10
def PV2 (H : Hp) (v : V) (ws : List Str) : Prop := PV H v ws ∨ ∃ (t : Addr) (vs : List V) (wss : List (List Str)), v = .ref t ∧ H t = some (.tup vs) ∧ Paired (PV H) vs wss ∧ WsOk vs wss ∧ ws = [Txt.join " " wss.flatten]
theorem PV2.mono {H H' : Hp} {v : V} {ws : List Str} (s : Same H H') (h : PV2 H v ws) : PV2 H' v ws := by
  rcases h with h | ⟨t, vs, wss, e, h1, h2, h3, h4⟩
  · exact .inl (h.mono s)
  · exact .inr ⟨t, vs, wss, e, s _ _ h1, pvs_mono s h2, h3, h4⟩
theorem paired_get {α β : Type} {R : α → β → Prop} : ∀ {xs : List α} {ys : List β} {i : Nat} {x : α}, Paired R xs ys → xs[i]? = some x → ∃ y, ys[i]? = some y ∧ R x y
  | _, _, _, _, .nil, e => by simp at e
  | _, _, 0, _, .cons q _, e => by
    have e2 : _ = _ := Option.some.inj e
    subst e2
    exact ⟨_, rfl, q⟩
  | _, _, i + 1, _, .cons _ t, e => by
    obtain ⟨y, e2, q⟩ := paired_get (i := i) t (by simpa using e)
    exact ⟨y, by simpa using e2, q⟩
theorem flat_more {α : Type} {l : List (List α)} {i : Nat} {x : List α} (h : l[i]? = some x) : (l.take (i + 1)).flatten = (l.take i).flatten ++ x := by
  rw [take_more h, List.flatten_append]
  simp
theorem flat_take_le {α : Type} (l : List (List α)) (i : Nat) : (l.take i).flatten.length ≤ l.flatten.length := by
  have e : l.flatten = (l.take i).flatten ++ (l.drop i).flatten := by rw [← List.flatten_append, List.take_append_drop]
  rw [e, List.length_append]
  omega
theorem log_fig {n : Int} (h : Fig n) : n.natAbs.log2 < 1920 := by
  by_cases h0 : n.natAbs = 0
  · rw [h0]
    decide
  · exact (Nat.log2_lt h0).mpr (Nat.lt_of_lt_of_le h (by decide +kernel))
theorem ws_join {wss : List (List Str)} {vs : List V} (h : WsOk vs wss) : (wss.flatten.map (·.length)).sum + wss.flatten.length * (" " : Str).length ≤ 16777216 := by
  have h1 := sum_words h.short
  have h2 := h.few
  rw [blank_len]
  omega
section
variable {P : Program} {w : World} {K : PySem.W.Frag} {mg : Str → Option Value} {base : Heap}
def sp_row (R : Hp → V → List Str → Prop) : Sp := fun vs H Q _ => ∃ (t : Addr) (ps : List V) (wss : List (List Str)), vs = [.ref t] ∧ H t = some (.tup ps) ∧ Paired (R H) ps wss ∧ WsOk ps wss ∧ ∀ H', Same H H' → Q (.str (Txt.join " " wss.flatten)) H'
theorem ok_row1 (T : Top K mg base) : DOk P w K mg base "_law_row" 1 ["_law_rule_here"] (sp_row PV) := by
  obtain ⟨fd, F⟩ := T.D__law_row
  refine ⟨fd, F.ok sc__law_row (fun vs H Q E h => ?_) (fun cdv A outer s H vs Q E hr h => ?_), F.bindsN fun _ _ _ _ _ _ us hl => match us, hl with | [_], _ => rfl, F.kp, T.g__law_row⟩
  · obtain ⟨t, ps, wss, rfl, _⟩ := h
    rfl
  · obtain ⟨t, ps, wss, rfl, ht, hps, hok, q⟩ := h
    have hlen : ps.length = wss.length := Paired.length hps
    have hfew := hok.few
-- slots: 0 _law_rule_here 1 _law_words 2 _law_part 3 _law_number
-- needs: _law_row
    refine ⟨_, PSs.nox (pss_cons (ps_set (i := 1) sc__law_row.nd rfl (by first | exact Or.inl rfl | exact Or.inr rfl) (pe_lst pa_nil))
      (pss_cons (ps_for PassesOwn.never rfl (pi_tup (pv 0)) (pg_name (i := 2) sc__law_row.nd rfl (by first | exact Or.inl rfl | exact Or.inr rfl))
        (pss_one (ps_if (pt_val (pe_callB call_isi (by rfl) T.b_isinstance (by decide +kernel) (pa_cons (pv 2) (pa_cons (pe_bltn (v := .ty "list") (by rfl) T.b_list (by decide +kernel) rfl) pa_nil))))
          (pss_one (ps_set (i := 1) sc__law_row.nd rfl (by first | exact Or.inl rfl | exact Or.inr rfl) (pe_op op_cat (pv 1) (pe_lc (own := [("_law_number", 3)]) (g := gName 3) (tt := tYes) rfl sc__law_row.nd (pi_list (pv 2)) (blkOk_by (N := N__law_row) (sc := defScope s__law_row) (by decide +kernel)) (fun _ _ _ _ _ => pg_name (i := 3) sc__law_row.nd rfl (Or.inl rfl)) (fun _ _ _ _ _ => pts_nil) (fun _ _ _ _ _ => (pe_callTy call_str_any (by rfl) T.b_str (by decide +kernel) (pa_cons (pv 3) pa_nil)))))))
          (pss_one (ps_if (pt_val (pe_callB call_isi (by rfl) T.b_isinstance (by decide +kernel) (pa_cons (pv 2) (pa_cons (pe_bltn (v := .ty "tuple") (by rfl) T.b_tuple (by decide +kernel) rfl) pa_nil))))
            (pss_one ps_never)
            (pss_one (ps_expr (pe_bm PySem.F.plainAttrs_list PySem.F.slot_list_append PySem.F.type_list_append mt_append (pv 1) (pa_cons (pe_callTy call_str_any (by rfl) T.b_str (by decide +kernel) (pa_cons (pv 2) pa_nil)) pa_nil)))))))))
      (pss_one (ps_ret (pe_join pe_str (pv 1)))))), ?_⟩
    refine ⟨Nat.zero_le _, fun p0 np0 => ?_⟩
    refine ⟨_, rfl, t, rfl, ⟨_, sqt ((Same.new np0) _ _ ht)⟩, for_it (walk_tup (K := K) (a := t) (xs := ps)) (fun i σ H' => ∃ (p : Addr) (x2 x3 : Option V), σ = [some (.ref t), some (.ref p), x2, x3] ∧ Same H H' ∧ H p = none ∧ H' p = some (.lst (((wss.take i).flatten).map V.str)))
      ⟨p0, none, none, rfl, Same.new np0, np0, upd_same⟩ (fun i σ H' _ ⟨_, _, _, _, s, _⟩ => sqt (s _ _ ht)) ?_ ?_⟩
    · rintro i v σ H'' H' hi ⟨p, x2, x3, rfl, SI, np, hp⟩ ⟨rfl, hv⟩
      obtain ⟨ws, hws, hpv⟩ := paired_get hps hv
      have hpv := hpv.mono SI
      have hfl := flat_more hws
      have hle := flat_take_le wss i
      have hsz : (((wss.take i).flatten).map V.str).length < sizeLine := szl (by rw [List.length_map]; omega)
      have hws2 : ws.length ≤ 100 := by
        have h2 := flat_take_le wss (i + 1)
        rw [hfl, List.length_append] at h2
        omega
      cases hpv with
      | str a =>
        refine ⟨_, rfl, _, _, _, _, false, rfl, .ty _, .base (.str a), kit_ty (by decide +kernel), false, rfl, iteF ?_⟩
        refine ⟨_, rfl, _, _, _, _, false, rfl, .ty _, .base (.str a), kit_ty (by decide +kernel), false, rfl, iteF ?_⟩
        refine ⟨_, rfl, .inl ⟨rfl, _, sql hp⟩, _, rfl, .inr ⟨a, rfl, p, _, .str a, rfl, rfl, hp, hsz, p, some (.str a), x3, rfl, SI.mut np, np, ?_⟩⟩
        rw [upd_same, hfl, List.map_append]
        rfl
      | int n hn =>
        refine ⟨_, rfl, _, _, _, _, false, rfl, .ty _, .base (.int n), kit_ty (by decide +kernel), false, rfl, iteF ?_⟩
        refine ⟨_, rfl, _, _, _, _, false, rfl, .ty _, .base (.int n), kit_ty (by decide +kernel), false, rfl, iteF ?_⟩
        refine ⟨_, rfl, .inl ⟨rfl, _, sql hp⟩, _, rfl, .inl ⟨n, rfl, log_fig hn, p, _, .str (nS n), rfl, rfl, hp, hsz, p, some (.int n), x3, rfl, SI.mut np, np, ?_⟩⟩
        rw [upd_same, hfl, List.map_append]
        rfl
      | @lst qa d hq hd =>
        rw [List.length_map] at hws2
        refine ⟨_, rfl, _, _, _, _, true, rfl, .ty _, .base (.lst hq), kit_ty (by decide +kernel), true, rfl, iteT ?_⟩
        refine ⟨_, rfl, _, rfl, qa, rfl, ⟨_, sql hq⟩, fun D hD => lc_list (K := K) (a := qa) (xs := d.map V.int) (fun j H2 => Same H' H2 ∧ H2 D = some (.lst (((d.take j).map nS).map V.str)))
          ⟨Same.new hD, upd_same⟩ (fun j H2 _ ⟨s, _⟩ => sql (s _ _ hq)) ?_ ?_⟩
        · rintro j v H2 hv2 ⟨SJ, hy⟩
          obtain ⟨x, hx, rfl⟩ := get_int hv2
          refine ⟨rfl, _, rfl, .inl ⟨x, rfl, log_fig (hd x (List.mem_of_getElem? hx)), _, hy, szl (by rw [List.length_map, List.length_map, List.length_take]; omega), SJ.mut hD, ?_⟩⟩
          rw [upd_same, take_more hx, List.map_append, List.map_append]
          rfl
        · rintro H2 ⟨SJ, hy⟩
          rw [List.length_map, List.take_length] at hy
          refine ⟨p, D, _, _, rfl, rfl, SJ _ _ hp, hy, ?_, fun p2 np2 => ⟨p2, some (.ref qa), x3, rfl, (SI.trans SJ).trans (Same.new np2), (SI.trans SJ).free np2, ?_⟩⟩
          · rw [List.length_map, List.length_map, List.length_map]
            exact sz (by omega)
          · rw [upd_same, hfl, List.map_append]
    · rintro σ H' ⟨p, x2, x3, rfl, SI, np, hp⟩
      rw [hlen, List.take_length] at hp
      exact ⟨⟨_, rfl⟩, _, rfl, _, p, wss.flatten, rfl, rfl, .inl (sql hp), ws_join hok, q H' SI⟩
theorem ok_row2 (T : Top K mg base) : DOk P w K mg base "_law_row" 2 ["_law_rule_here"] (sp_row PV2) := by
  have G__law_row := ok_row1 (P := P) (w := w) T
  obtain ⟨fd, F⟩ := T.D__law_row
  refine ⟨fd, F.ok sc__law_row (fun vs H Q E h => ?_) (fun cdv A outer s H vs Q E hr h => ?_), F.bindsN fun _ _ _ _ _ _ us hl => match us, hl with | [_], _ => rfl, F.kp, T.g__law_row⟩
  · obtain ⟨t, ps, wss, rfl, _⟩ := h
    rfl
  · obtain ⟨t, ps, wss, rfl, ht, hps, hok, q⟩ := h
    have hlen : ps.length = wss.length := Paired.length hps
    have hfew := hok.few
-- slots: 0 _law_rule_here 1 _law_words 2 _law_part 3 _law_number
-- needs: _law_row
    refine ⟨_, PSs.nox (pss_cons (ps_set (i := 1) sc__law_row.nd rfl (by first | exact Or.inl rfl | exact Or.inr rfl) (pe_lst pa_nil))
      (pss_cons (ps_for PassesOwn.never rfl (pi_tup (pv 0)) (pg_name (i := 2) sc__law_row.nd rfl (by first | exact Or.inl rfl | exact Or.inr rfl))
        (pss_one (ps_if (pt_val (pe_callB call_isi (by rfl) T.b_isinstance (by decide +kernel) (pa_cons (pv 2) (pa_cons (pe_bltn (v := .ty "list") (by rfl) T.b_list (by decide +kernel) rfl) pa_nil))))
          (pss_one (ps_set (i := 1) sc__law_row.nd rfl (by first | exact Or.inl rfl | exact Or.inr rfl) (pe_op op_cat (pv 1) (pe_lc (own := [("_law_number", 3)]) (g := gName 3) (tt := tYes) rfl sc__law_row.nd (pi_list (pv 2)) (blkOk_by (N := N__law_row) (sc := defScope s__law_row) (by decide +kernel)) (fun _ _ _ _ _ => pg_name (i := 3) sc__law_row.nd rfl (Or.inl rfl)) (fun _ _ _ _ _ => pts_nil) (fun _ _ _ _ _ => (pe_callTy call_str_any (by rfl) T.b_str (by decide +kernel) (pa_cons (pv 3) pa_nil)))))))
          (pss_one (ps_if (pt_val (pe_callB call_isi (by rfl) T.b_isinstance (by decide +kernel) (pa_cons (pv 2) (pa_cons (pe_bltn (v := .ty "tuple") (by rfl) T.b_tuple (by decide +kernel) rfl) pa_nil))))
            (pss_one (ps_expr (pe_bm PySem.F.plainAttrs_list PySem.F.slot_list_append PySem.F.type_list_append mt_append (pv 1) (pa_cons (dcall G__law_row (hr.mono (by decide)) (by rfl) (pa_cons (pv 2) pa_nil)) pa_nil))))
            (pss_one (ps_expr (pe_bm PySem.F.plainAttrs_list PySem.F.slot_list_append PySem.F.type_list_append mt_append (pv 1) (pa_cons (pe_callTy call_str_any (by rfl) T.b_str (by decide +kernel) (pa_cons (pv 2) pa_nil)) pa_nil)))))))))
      (pss_one (ps_ret (pe_join pe_str (pv 1)))))), ?_⟩
    refine ⟨Nat.zero_le _, fun p0 np0 => ?_⟩
    refine ⟨_, rfl, t, rfl, ⟨_, sqt ((Same.new np0) _ _ ht)⟩, for_it (walk_tup (K := K) (a := t) (xs := ps)) (fun i σ H' => ∃ (p : Addr) (x2 x3 : Option V), σ = [some (.ref t), some (.ref p), x2, x3] ∧ Same H H' ∧ H p = none ∧ H' p = some (.lst (((wss.take i).flatten).map V.str)))
      ⟨p0, none, none, rfl, Same.new np0, np0, upd_same⟩ (fun i σ H' _ ⟨_, _, _, _, s, _⟩ => sqt (s _ _ ht)) ?_ ?_⟩
    · rintro i v σ H'' H' hi ⟨p, x2, x3, rfl, SI, np, hp⟩ ⟨rfl, hv⟩
      obtain ⟨ws, hws, hpv⟩ := paired_get hps hv
      have hpv := hpv.mono SI
      have hfl := flat_more hws
      have hle := flat_take_le wss i
      have hsz : (((wss.take i).flatten).map V.str).length < sizeLine := szl (by rw [List.length_map]; omega)
      have hws2 : ws.length ≤ 100 := by
        have h2 := flat_take_le wss (i + 1)
        rw [hfl, List.length_append] at h2
        omega
      rcases hpv with hpv | ⟨t2, vs2, wss2, rfl, h2, hp2, hok2, rfl⟩
      · skip
        cases hpv with
        | str a =>
          refine ⟨_, rfl, _, _, _, _, false, rfl, .ty _, .base (.str a), kit_ty (by decide +kernel), false, rfl, iteF ?_⟩
          refine ⟨_, rfl, _, _, _, _, false, rfl, .ty _, .base (.str a), kit_ty (by decide +kernel), false, rfl, iteF ?_⟩
          refine ⟨_, rfl, .inl ⟨rfl, _, sql hp⟩, _, rfl, .inr ⟨a, rfl, p, _, .str a, rfl, rfl, hp, hsz, p, some (.str a), x3, rfl, SI.mut np, np, ?_⟩⟩
          rw [upd_same, hfl, List.map_append]
          rfl
        | int n hn =>
          refine ⟨_, rfl, _, _, _, _, false, rfl, .ty _, .base (.int n), kit_ty (by decide +kernel), false, rfl, iteF ?_⟩
          refine ⟨_, rfl, _, _, _, _, false, rfl, .ty _, .base (.int n), kit_ty (by decide +kernel), false, rfl, iteF ?_⟩
          refine ⟨_, rfl, .inl ⟨rfl, _, sql hp⟩, _, rfl, .inl ⟨n, rfl, log_fig hn, p, _, .str (nS n), rfl, rfl, hp, hsz, p, some (.int n), x3, rfl, SI.mut np, np, ?_⟩⟩
          rw [upd_same, hfl, List.map_append]
          rfl
        | @lst qa d hq hd =>
          rw [List.length_map] at hws2
          refine ⟨_, rfl, _, _, _, _, true, rfl, .ty _, .base (.lst hq), kit_ty (by decide +kernel), true, rfl, iteT ?_⟩
          refine ⟨_, rfl, _, rfl, qa, rfl, ⟨_, sql hq⟩, fun D hD => lc_list (K := K) (a := qa) (xs := d.map V.int) (fun j H2 => Same H' H2 ∧ H2 D = some (.lst (((d.take j).map nS).map V.str)))
            ⟨Same.new hD, upd_same⟩ (fun j H2 _ ⟨s, _⟩ => sql (s _ _ hq)) ?_ ?_⟩
          · rintro j v H2 hv2 ⟨SJ, hy⟩
            obtain ⟨x, hx, rfl⟩ := get_int hv2
            refine ⟨rfl, _, rfl, .inl ⟨x, rfl, log_fig (hd x (List.mem_of_getElem? hx)), _, hy, szl (by rw [List.length_map, List.length_map, List.length_take]; omega), SJ.mut hD, ?_⟩⟩
            rw [upd_same, take_more hx, List.map_append, List.map_append]
            rfl
          · rintro H2 ⟨SJ, hy⟩
            rw [List.length_map, List.take_length] at hy
            refine ⟨p, D, _, _, rfl, rfl, SJ _ _ hp, hy, ?_, fun p2 np2 => ⟨p2, some (.ref qa), x3, rfl, (SI.trans SJ).trans (Same.new np2), (SI.trans SJ).free np2, ?_⟩⟩
            · rw [List.length_map, List.length_map, List.length_map]
              exact sz (by omega)
            · rw [upd_same, hfl, List.map_append]
      · refine ⟨_, rfl, _, _, _, _, false, rfl, .ty _, .base (.tup h2), kit_ty (by decide +kernel), false, rfl, iteF ?_⟩
        refine ⟨_, rfl, _, _, _, _, true, rfl, .ty _, .base (.tup h2), kit_ty (by decide +kernel), true, rfl, iteT ?_⟩
        refine ⟨_, rfl, .inl ⟨rfl, _, sql hp⟩, _, rfl, t2, vs2, wss2, rfl, h2, hp2, hok2, fun H3 S3 => ?_⟩
        refine ⟨p, _, .str (Txt.join " " wss2.flatten), rfl, rfl, S3 _ _ hp, hsz, p, some (.ref t2), x3, rfl, (SI.trans S3).mut np, np, ?_⟩
        rw [upd_same, hfl, List.map_append]
        rfl
    · rintro σ H' ⟨p, x2, x3, rfl, SI, np, hp⟩
      rw [hlen, List.take_length] at hp
      exact ⟨⟨_, rfl⟩, _, rfl, _, p, wss.flatten, rfl, rfl, .inl (sql hp), ws_join hok, q H' SI⟩
theorem joinL_cons {S p : List Nat} {l : List (List Nat)} (h : l ≠ []) : joinL S (p :: l) = p ++ (S ++ joinL S l) := by
  cases l with
  | nil => exact absurd rfl h
  | cons x l => rfl
theorem joinL_join (S : List Nat) {B : List (List Nat)} (hB : B ≠ []) : ∀ A : List (List Nat), joinL S (A ++ [joinL S B]) = joinL S (A ++ B)
  | [] => rfl
  | x :: A => by
    rw [List.cons_append, List.cons_append, joinL_cons (by simp), joinL_cons (by simp [hB]), joinL_join S hB A]
theorem join_join {a b : List Str} (hb : b ≠ []) : Txt.join " " (a ++ [Txt.join " " b]) = Txt.join " " (a ++ b) := by
  refine ext_tl ?_
  rw [join_eq " " (a ++ [Txt.join " " b]), join_eq " " (a ++ b), tl_join, tl_join, List.map_append, List.map_append]
  have e : [Txt.join " " b].map tl = [joinL (tl (" " : Str)) (b.map tl)] := by
    show [tl (Txt.join " " b)] = _
    rw [join_eq, tl_join]
  rw [e]
  exact joinL_join _ (fun z => hb (List.map_eq_nil_iff.mp z)) _
theorem fig_voice {a n : Nat} (ha : a < n) (hn : n ≤ 4) : Fig ((a : Int) + 1) := fig_small (by omega) (by omega)
theorem ws_of {n : Nat} (hn : n ≤ 4) {R : RK} (h : R.ok n) {vs : List V} {wss : List (List Str)} (e : wss.flatten = R.words) (hv : vs.length ≤ 10) : WsOk vs wss := by
  obtain ⟨h1, h2⟩ := words_ok hn h
  refine ⟨by rw [e]; omega, fun z hz => ?_, hv⟩
  rw [e] at hz
  have := (h1 z hz).1
  omega
/-- the parts of a flat rule's tuple -/
theorem RT.flat {n : Nat} (hn : n ≤ 4) {H : Hp} : ∀ {R : RK} {v : V}, R.ok n → RT H R v → (∀ m r i, R ≠ .ev m r i) → ∃ t vs wss, v = .ref t ∧ H t = some (.tup vs) ∧ Paired (PV H) vs wss ∧ wss.flatten = R.words ∧ vs.length ≤ 10
  | .span a b d, v, hk, ⟨t, qa, e, h1, h2⟩, _ => by
    obtain ⟨h3, h4, h5⟩ := hk
    exact ⟨t, _, ([["span"], [nS ((a : Int) + 1)], [nS ((b : Int) + 1)], d.map nS] : List (List Str)), e, h1, (.cons (.str "span") (.cons (.int _ (fig_voice h3 hn)) (.cons (.int _ (fig_voice h4 hn)) (.cons (.lst h2 h5.2.2) .nil)))), by simp [RK.words, RK.kind, RK.rest, RK.nums], by show 4 ≤ 10; decide⟩
  | .clock a b m d, v, hk, ⟨t, qa, e, h1, h2⟩, _ => by
    obtain ⟨h3, h4, h6, h7, h5⟩ := hk
    exact ⟨t, _, ([["clock"], [nS ((a : Int) + 1)], [nS ((b : Int) + 1)], [nS m], d.map nS] : List (List Str)), e, h1, (.cons (.str "clock") (.cons (.int _ (fig_voice h3 hn)) (.cons (.int _ (fig_voice h4 hn)) (.cons (.int _ h7) (.cons (.lst h2 h5.2.2) .nil))))), by simp [RK.words, RK.kind, RK.rest, RK.nums], by show 5 ≤ 10; decide⟩
  | .alike a b d, v, hk, ⟨t, qa, e, h1, h2⟩, _ => by
    obtain ⟨h3, h4, h5⟩ := hk
    exact ⟨t, _, ([["alike"], [nS ((a : Int) + 1)], [nS ((b : Int) + 1)], d.map nS] : List (List Str)), e, h1, (.cons (.str "alike") (.cons (.int _ (fig_voice h3 hn)) (.cons (.int _ (fig_voice h4 hn)) (.cons (.lst h2 h5.2.2) .nil)))), by simp [RK.words, RK.kind, RK.rest, RK.nums], by show 4 ≤ 10; decide⟩
  | .move x d, v, hk, ⟨t, qa, e, h1, h2⟩, _ => by
    obtain ⟨h3, h5⟩ := hk
    exact ⟨t, _, ([["move"], [nS ((x : Int) + 1)], d.map nS] : List (List Str)), e, h1, (.cons (.str "move") (.cons (.int _ (fig_voice h3 hn)) (.cons (.lst h2 h5.2.2) .nil))), by simp [RK.words, RK.kind, RK.rest, RK.nums], by show 3 ≤ 10; decide⟩
  | .beg x d, v, hk, ⟨t, qa, e, h1, h2⟩, _ => by
    obtain ⟨h3, h5⟩ := hk
    exact ⟨t, _, ([["begin"], [nS ((x : Int) + 1)], d.map nS] : List (List Str)), e, h1, (.cons (.str "begin") (.cons (.int _ (fig_voice h3 hn)) (.cons (.lst h2 h5.2.2) .nil))), by simp [RK.words, RK.kind, RK.rest, RK.nums], by show 3 ≤ 10; decide⟩
  | .clo x d, v, hk, ⟨t, qa, e, h1, h2⟩, _ => by
    obtain ⟨h3, h5⟩ := hk
    exact ⟨t, _, ([["close"], [nS ((x : Int) + 1)], d.map nS] : List (List Str)), e, h1, (.cons (.str "close") (.cons (.int _ (fig_voice h3 hn)) (.cons (.lst h2 h5.2.2) .nil))), by simp [RK.words, RK.kind, RK.rest, RK.nums], by show 3 ≤ 10; decide⟩
  | .back x d, v, hk, ⟨t, e, h1⟩, _ => by
    obtain ⟨h3, h4, h5⟩ := hk
    exact ⟨t, _, ([["back"], [nS ((x : Int) + 1)], [nS d]] : List (List Str)), e, h1, (.cons (.str "back") (.cons (.int _ (fig_voice h3 hn)) (.cons (.int _ h5) .nil))), by simp [RK.words, RK.kind, RK.rest, RK.nums], by show 3 ≤ 10; decide⟩
  | .held x k, v, hk, ⟨t, e, h1⟩, _ => by
    obtain ⟨h3, h4, h5⟩ := hk
    exact ⟨t, _, ([["held"], [nS ((x : Int) + 1)], [nS k]] : List (List Str)), e, h1, (.cons (.str "held") (.cons (.int _ (fig_voice h3 hn)) (.cons (.int _ h5) .nil))), by simp [RK.words, RK.kind, RK.rest, RK.nums], by show 3 ≤ 10; decide⟩
  | .times x y lo hi, v, hk, ⟨t, e, h1⟩, _ => by
    obtain ⟨h3, h4, h5, h6, h7, h8⟩ := hk
    exact ⟨t, _, ([["times"], [nS ((x : Int) + 1)], [nS y], [nS lo], [nS hi]] : List (List Str)), e, h1, (.cons (.str "times") (.cons (.int _ (fig_voice h3 hn)) (.cons (.int _ h4) (.cons (.int _ h6) (.cons (.int _ h8) .nil))))), by simp [RK.words, RK.kind, RK.rest, RK.nums], by show 5 ≤ 10; decide⟩
  | .ev m r i, v, _, _, h => absurd rfl (h m r i)
theorem inner_flat {i : RK} (h : InnerOk i) : ∀ m r j, i ≠ .ev m r j := by
  rcases h with ⟨a, b, d, rfl⟩ | ⟨a, b, k, d, rfl⟩ <;> exact fun _ _ _ z => nomatch z
theorem RT.parts {n : Nat} (hn : n ≤ 4) {H : Hp} {R : RK} {v : V} (hk : R.ok n) (h : RT H R v) : ∃ t vs wss, v = .ref t ∧ H t = some (.tup vs) ∧ Paired (PV2 H) vs wss ∧ WsOk vs wss ∧ Txt.join " " wss.flatten = rowS R := by
  by_cases hf : ∀ m r i, R ≠ .ev m r i
  · obtain ⟨t, vs, wss, e, h1, h2, h3, h4⟩ := RT.flat hn hk h hf
    refine ⟨t, vs, wss, e, h1, ?_, ws_of hn hk h3 h4, by rw [h3]; rfl⟩
    clear h1 h3 h4
    induction h2 with
    | nil => exact .nil
    | cons r t ih => exact .cons (.inl r) ih
  · have hx : ∃ m r i, R = .ev m r i := Classical.byContradiction fun z => hf fun m r i e => z ⟨m, r, i, e⟩
    obtain ⟨m, r, i, rfl⟩ := hx
    obtain ⟨t, u, e, h1, h2⟩ := h
    obtain ⟨k1, k2, k3, k4, k5, k6⟩ := id hk
    obtain ⟨t2, vs2, wss2, e2, g1, g2, g3, g4⟩ := RT.flat hn k6 h2 (inner_flat k5)
    have hj : Txt.join " " wss2.flatten = rowS i := by
      rw [g3]
      rfl
    have er : RK.words (.ev m r i) = (["every", nS m, nS r] : List Str) ++ i.words := rfl
    refine ⟨t, _, ([["every"], [nS m], [nS r], [Txt.join " " wss2.flatten]] : List (List Str)), e, h1, .cons (.inl (.str "every")) (.cons (.inl (.int m k2)) (.cons (.inl (.int r (Nat.lt_of_le_of_lt (by omega : r.natAbs ≤ m.natAbs) k2))) (.cons (.inr ⟨t2, vs2, wss2, e2, g1, g2, ws_of hn k6 g3 g4, rfl⟩) .nil))), ⟨by show 4 ≤ 100; decide, fun z hz => ?_, by show 4 ≤ 10; decide⟩, ?_⟩
    · have hz : z ∈ (["every", nS m, nS r, Txt.join " " wss2.flatten] : List Str) := hz
      rcases List.mem_cons.mp hz with rfl | hz
      · decide +kernel
      rcases List.mem_cons.mp hz with rfl | hz
      · have := nS_len2 k2
        omega
      rcases List.mem_cons.mp hz with rfl | hz
      · have := nS_len2 (n := r) (Nat.lt_of_le_of_lt (by omega : r.natAbs ≤ m.natAbs) k2)
        omega
      · rw [List.mem_singleton.mp hz, hj]
        have := rowS_len hn k6
        omega
    · show Txt.join " " ((["every", nS m, nS r] : List Str) ++ [Txt.join " " wss2.flatten]) = rowS (.ev m r i)
      rw [join_join (by rw [g3]; exact fun z => nomatch z), g3]
      rfl
def sp_law_row : Sp := fun vs H Q _ => ∃ (v : V) (R : RK) (n : Nat), vs = [v] ∧ n ≤ 4 ∧ R.ok n ∧ RT H R v ∧ ∀ H', Same H H' → Q (.str (rowS R)) H'
theorem DOk.weak {x : Str} {k : Nat} {ps : List Str} {sp sp2 : Sp} (D : DOk P w K mg base x k ps sp) (h : ∀ vs H Q E, sp2 vs H Q E → sp vs H Q E) : DOk P w K mg base x k ps sp2 := by
  obtain ⟨fd, F, b, kp, g⟩ := D
  exact ⟨fd, F.imp h, b, kp, g⟩
theorem ok__law_row (T : Top K mg base) : DOk P w K mg base "_law_row" 2 ["_law_rule_here"] sp_law_row := by
  refine (ok_row2 T).weak fun vs H Q E h => ?_
  obtain ⟨v, R, n, rfl, hn, hk, hR, q⟩ := h
  obtain ⟨t, ps, wss, rfl, h1, h2, h3, h4⟩ := RT.parts hn hk hR
  exact ⟨t, ps, wss, rfl, h1, h2, h3, fun H' s => by rw [h4]; exact q H' s⟩
end
end Fv
set_option Elab.async false
set_option linter.all false
set_option maxRecDepth 100000
set_option maxHeartbeats 4000000
/-! The law's own score. -/
namespace Fv
open PySem PySem.Spec PyProof.Rows L2 _root_.TL
theorem len_app (x y : Str) : (x ++ y).length = x.length + y.length := by
  rw [len_tl, tl_append, List.length_append, ← len_tl, ← len_tl]
theorem rngS_eq (r : Int × Int) : ("voice " : Str) ++ nS r.1 ++ (" " : Str) ++ nS r.2 = rngS r := by
  refine ext_tl ?_
  unfold rngS
  rw [tl_append, tl_append, tl_append, join_eq, tl_join]
  have e : tl ("voice " : Str) = tl ("voice" : Str) ++ tl (" " : Str) := by decide +kernel
  rw [e]
  show _ = tl ("voice" : Str) ++ (tl (" " : Str) ++ (tl (nS r.1) ++ (tl (" " : Str) ++ tl (nS r.2))))
  simp only [List.append_assoc]
section
variable {P : Program} {w : World} {K : PySem.W.Frag} {mg : Str → Option Value} {base : Heap}
def sp_law_text (K : PySem.W.Frag) : Sp := fun vs H Q _ => ∃ (ra ua : Addr) (rs : Rng) (xs : List V) (Rs : List RK), vs = [.ref ra, .ref ua] ∧ TL K H ra (rV rs) ∧ RngOk rs ∧ H ua = some (.lst xs) ∧ RTs H xs Rs ∧ RulesOk rs.length Rs ∧ ∀ H', Same H H' → Q (.str (scoreS rs Rs)) H'
theorem ok__law_text (T : Top K mg base) : DOk P w K mg base "_law_text" 3 ["_law_ranges_here", "_law_rules_here"] (sp_law_text K) := by
  have G__law_row := ok__law_row (P := P) (w := w) T
  obtain ⟨fd, F⟩ := T.D__law_text
  refine ⟨fd, F.ok sc__law_text (fun vs H Q E h => ?_) (fun cdv A outer s H vs Q E hr h => ?_), F.bindsN fun _ _ _ _ _ _ us hl => match us, hl with | [_, _], _ => rfl, F.kp, T.g__law_text⟩
  · obtain ⟨ra, ua, rs, xs, Rs, rfl, _⟩ := h
    rfl
  · obtain ⟨ra, ua, rs, xs, Rs, rfl, ⟨rxs, hra, tx⟩, hR, hua, hxs, hU, q⟩ := h
    have lx : rxs.length = rs.length := by rw [tx.len]; exact List.length_map ..
    have lu := hxs.len
    have hfew := hR.few
    have hfew2 := hU.few
    have lb := blank_len
    have lv : ("voice " : Str).length = 6 := by decide +kernel
-- slots: 0 _law_ranges_here 1 _law_rules_here 2 _law_rows 3 _law_low 4 _law_high 5 _law_rule_here
-- needs: _law_row
    refine ⟨_, PSs.nox (pss_cons (ps_setLc (i := 2) (own := [("_law_low", 3), ("_law_high", 4)]) (g := gTup K 2 (gCons (gName 3) (gCons (gName 4) gNil))) (tt := tYes) rfl sc__law_text.nd rfl rfl (sw_true rfl rfl rfl (by decide +kernel)) (pi_list (pv 0)) (blkOk_by (N := N__law_text) (sc := defScope s__law_text) (by decide +kernel)) (fun _ _ _ _ _ => pg_tup rfl (pgs_cons (pg_name (i := 3) sc__law_text.nd rfl (Or.inl rfl)) (pgs_cons (pg_name (i := 4) sc__law_text.nd rfl (Or.inl rfl)) pgs_nil))) (fun _ _ _ _ _ => pts_nil) (fun _ _ _ _ _ => (pe_op op_add_str (pe_op op_add_str (pe_op op_add_str pe_str (pe_callTy call_str_int (by rfl) T.b_str (by decide +kernel) (pa_cons (pv 3) pa_nil))) pe_str) (pe_callTy call_str_int (by rfl) T.b_str (by decide +kernel) (pa_cons (pv 4) pa_nil)))))
      (pss_one (ps_ret (pe_join pe_str (pe_op op_cat (pv 2) (pe_lc (own := [("_law_rule_here", 5)]) (g := gName 5) (tt := tYes) rfl sc__law_text.nd (pi_list (pv 1)) (blkOk_by (N := N__law_text) (sc := defScope s__law_text) (by decide +kernel)) (fun _ _ _ _ _ => pg_name (i := 5) sc__law_text.nd rfl (Or.inl rfl)) (fun _ _ _ _ _ => pts_nil) (fun _ _ _ _ _ => (dcall G__law_row (hr.mono (by decide)) (by rfl) (pa_cons (pv 5) pa_nil))))))))), ?_⟩
    refine ⟨_, rfl, ra, rfl, ⟨_, hra⟩, fun D hD => lc_list (K := K) (a := ra) (xs := rxs) (fun j H' => Same H H' ∧ H' D = some (.lst (((rs.take j).map rngS).map V.str)))
      ⟨Same.new hD, upd_same⟩ (fun j H' _ ⟨s, _⟩ => s.seq hra) ?_ ?_⟩
    · rintro j v H' hv ⟨SJ, hy⟩
      obtain ⟨rt, rc, rfl, hrc, hrt⟩ := (tx.mono SJ.tk).getV hv
      obtain ⟨⟨lo, hi⟩, hri, rfl⟩ : ∃ r, rs[j]? = some r ∧ rc = [V.int r.1, V.int r.2] := by
        unfold rV at hrc
        rw [List.getElem?_map] at hrc
        cases e : rs[j]? with
        | none => rw [e] at hrc; cases hrc
        | some r => rw [e] at hrc; exact ⟨r, rfl, (Option.some.inj hrc).symm⟩
      obtain ⟨f1, f2, f3⟩ := hR.fig _ (List.mem_of_getElem? hri)
      have l1 := nS_len2 (n := lo) f1
      have l2 := nS_len2 (n := hi) f2
      have z1 : ("voice " : Str).length + (nS lo).length ≤ sizeLine := sz (by omega)
      have z2 : (("voice " : Str) ++ nS lo).length + (" " : Str).length ≤ sizeLine := sz (by rw [len_app]; omega)
      have z3 : (("voice " : Str) ++ nS lo ++ (" " : Str)).length + (nS hi).length ≤ sizeLine := sz (by rw [len_app, len_app]; omega)
      refine ⟨rt, _, rfl, sqt hrt, rfl, _, _, rfl, _, _, rfl, rfl, rfl, _, rfl, lo, rfl, log_fig f1, _, _, rfl, rfl, z1, _, _, rfl, rfl, z2, _, rfl, hi, rfl, log_fig f2, _, _, rfl, rfl, z3, _, hy, szl (by rw [List.length_map, List.length_map, List.length_take]; omega), SJ.mut hD, ?_⟩
      rw [upd_same, take_more hri, List.map_append, List.map_append]
      show some (HO.lst (_ ++ [V.str (("voice " : Str) ++ nS lo ++ (" " : Str) ++ nS hi)])) = some (HO.lst (_ ++ [V.str (rngS (lo, hi))]))
      rw [← rngS_eq]
    · rintro H1 ⟨S1, hy1⟩
      rw [lx, List.take_length] at hy1
      refine ⟨⟨_, rfl⟩, _, rfl, _, rfl, ua, rfl, ⟨_, sql (S1 _ _ hua)⟩, fun D2 hD2 => lc_list (K := K) (a := ua) (xs := xs) (fun j H' => Same H1 H' ∧ H' D2 = some (.lst (((Rs.take j).map rowS).map V.str)))
        ⟨Same.new hD2, upd_same⟩ (fun j H' _ ⟨s, _⟩ => sql (s _ _ (S1 _ _ hua))) ?_ ?_⟩
      · rintro j v H' hv ⟨SJ, hy⟩
        have hxs2 := (hxs.fk (FK.of (S1.trans SJ)) hU.ok)
        obtain ⟨R, hRi, hRt⟩ := hxs2.get hv
        refine ⟨rfl, _, rfl, v, R, rs.length, rfl, hfew, hU.ok R (List.mem_of_getElem? hRi), hRt, fun H3 S3 => ⟨_, S3 _ _ hy, szl (by rw [List.length_map, List.length_map, List.length_take]; omega), (SJ.trans S3).mut hD2, ?_⟩⟩
        rw [upd_same, take_more hRi, List.map_append, List.map_append]
        rfl
      · rintro H2 ⟨S2, hy2⟩
        rw [lu, List.take_length] at hy2
        refine ⟨D, D2, _, _, rfl, rfl, S2 _ _ hy1, hy2, sz (by rw [List.length_map, List.length_map, List.length_map, List.length_map]; omega), fun p np => ?_⟩
        have hs := sum_words (k := 1000) fun z hz => (lines_ok hR hU z hz).1
        have ll := lines_len rs Rs
        refine ⟨_, p, linesS rs Rs, rfl, rfl, .inl (sql ?_), ?_, q _ ((S1.trans S2).trans (Same.new np))⟩
        · rw [upd_same]
          unfold linesS
          rw [List.map_append]
        · rw [nl_len]
          omega
def sp_law_drawn (K : PySem.W.Frag) : Sp := fun vs H Q _ => ∃ (sa : Addr) (ns : List Int), vs = [.ref sa, .int 6] ∧ SqL K H sa (ns.map V.int) ∧
  ∀ t H' ra ua rs xs Rs, Same H H' → H' t = some (.tup [.ref ra, .ref ua]) → TL K H' ra (rV rs) → Fits rs Rs → H' ua = some (.lst xs) → RTs H' xs Rs → Q (.ref t) H'
theorem ok__law_drawn (T : Top K mg base) : DOk P w K mg base "_law_drawn" 5 ["_law_script", "_law_few"] (sp_law_drawn K) := by
  have G__law_ranges := ok__law_ranges (P := P) (w := w) T
  have G__law_at := ok__law_at (P := P) (w := w) T
  have G__law_rules := ok__law_rules (P := P) (w := w) T
  obtain ⟨fd, F⟩ := T.D__law_drawn
  refine ⟨fd, F.ok sc__law_drawn (fun vs H Q E h => ?_) (fun cdv A outer s H vs Q E hr h => ?_), F.bindsN fun _ _ _ _ _ _ us hl => match us, hl with | [_, _], _ => rfl, F.kp, T.g__law_drawn⟩
  · obtain ⟨sa, ns, rfl, _⟩ := h
    rfl
  · obtain ⟨sa, ns, rfl, hS, q⟩ := h
    have hb : ∀ b : Bool, 1 ≤ 6 + 6 * (if b = true then (1 : Int) else 0) ∧ 6 + 6 * (if b = true then (1 : Int) else 0) ≤ 12 := by
      intro b
      cases b <;> simp
-- slots: 0 _law_script 1 _law_few 2 _law_ranges_here 3 _law_rules_here
-- needs: _law_ranges _law_at _law_rules
    refine ⟨_, PSs.nox (pss_cons (ps_set (i := 2) sc__law_drawn.nd rfl (by first | exact Or.inl rfl | exact Or.inr rfl) (dcall G__law_ranges (hr.mono (by decide)) (by rfl) (pa_cons (pv 0) (pa_cons (pe_op op_add (pv 1) (pe_op op_mul (pv 1) (pe_callTy call_int1 (by rfl) T.b_int (by decide +kernel) (pa_cons (pe_cmpR op_eq (pe_op op_mod (pe_op op_fdiv (dcall G__law_at (hr.mono (by decide)) (by rfl) (pa_cons (pv 0) (pa_cons pe_int pa_nil))) pe_int) pe_int) pe_int (nomark _)) pa_nil)))) pa_nil))))
      (pss_cons (ps_set (i := 3) sc__law_drawn.nd rfl (by first | exact Or.inl rfl | exact Or.inr rfl) (dcall G__law_rules (hr.mono (by decide)) (by rfl) (pa_cons (pv 0) (pa_cons (pv 2) (pa_cons pe_int pa_nil)))))
      (pss_one (ps_ret (pe_tup (pa_cons (pv 2) (pa_cons (pv 3) pa_nil))))))), ?_⟩
    refine ⟨_, rfl, _, rfl, _, rfl, _, rfl, sa, ns, 0, rfl, hS, _, _, rfl, rfl, ⟨by decide, by decide⟩, _, _, rfl, rfl, lt0 (by decide), rfl, .inr ⟨_, rfl, _, _, rfl, rfl, .inl ⟨by decide, by decide⟩, _, _, rfl, rfl, ?_⟩⟩
    refine ⟨sa, ns, _, rfl, hS, (hb _).1, (hb _).2, fun p H1 rs N hR h36 hpr => ?_⟩
    have h12 : prodI (rs.map wid) ≤ 12 := Int.le_trans hpr (hb _).2
    refine ⟨_, rfl, _, rfl, sa, p, ns, rs, rfl, N.1.seq hS, N.tl, hR, h36, h12, fun p2 H2 xs Rs S2 np2 hp2 hRT hU hw => ?_⟩
    refine ⟨_, rfl, _, rfl, by show 2 ≤ sizeLine; decide, fun t nt => ?_⟩
    have S3 := Same.new (o := .tup [.ref p, .ref p2]) nt
    have S23 := S2.trans S3
    refine q t _ p p2 rs xs Rs (N.1.trans S23) upd_same (N.tl.mono S23) ⟨hR, hU, ?_⟩ (S3 _ _ hp2) (hRT.fk (FK.of S3) hU.ok)
    unfold facs
    rw [prod_append]
    omega
end
end Fv
set_option Elab.async false
set_option linter.all false
set_option maxRecDepth 100000
set_option maxHeartbeats 4000000
/-! What breaks a rule: some answer. -/
namespace Fv
open PySem PySem.Spec PyProof.Rows L2 _root_.TL
theorem at_any {xs : List Int} {i : Int} (h0 : -((xs.length : Nat) : Int) ≤ i) (h1 : i < (xs.length : Nat)) : ∃ n, atI (xs.map V.int) i = some (.int n) := by
  unfold atI ixN
  rw [List.length_map]
  by_cases h2 : 0 ≤ i
  · rw [if_pos h2, if_pos h1]
    have h3 : i.toNat < xs.length := by omega
    exact ⟨xs[i.toNat], int_get (List.getElem?_eq_getElem h3)⟩
  · rw [if_neg h2, if_pos h0]
    have h3 : (i + (xs.length : Nat)).toNat < xs.length := by omega
    exact ⟨xs[(i + (xs.length : Nat)).toNat], int_get (List.getElem?_eq_getElem h3)⟩
theorem cut_to (xs : List V) {i : Int} (k : Nat) (hi : i = ((k : Nat) : Int)) : cutV xs none (some i) = xs.take k := by
  subst hi
  unfold cutV
  rw [HT.sIx_nat, HT.sIx_none, Nat.sub_zero, List.drop_zero]
  by_cases h : k ≤ xs.length
  · rw [Nat.min_eq_left h]
  · rw [Nat.min_eq_right (by omega), List.take_length, List.take_of_length_le (by omega)]
/-- a line of columns -/
def LineOk (n : Nat) (line : List (List Int)) : Prop := ∀ c ∈ line, c.length = n
theorem line_at {K : PySem.W.Frag} {H : Hp} {xs : List V} {line : List (List Int)} {k : Nat} (t : Tups H xs (cV line)) (h : k < line.length) : ∃ ca c, xs[k]? = some (.ref ca) ∧ c ∈ line ∧ H ca = some (.tup (iV c)) := by
  have e := List.getElem?_eq_getElem h
  obtain ⟨a, h1, h2⟩ := t.get (i := k) (c := iV line[k]) (by unfold cV; rw [List.getElem?_map, e]; rfl)
  exact ⟨a, line[k], h1, List.getElem_mem h, h2⟩
section
variable {P : Program} {w : World} {K : PySem.W.Frag} {mg : Str → Option Value} {base : Heap}
def sp_span : Sp := fun vs H Q _ => ∃ (t ca : Addr) (s : V) (a b : Nat) (rest : List V) (c : List Int), vs = [.ref t, .ref ca] ∧ H t = some (.tup (s :: .int ((a : Int) + 1) :: .int ((b : Int) + 1) :: rest)) ∧ H ca = some (.tup (iV c)) ∧ a < c.length ∧ b < c.length ∧ ∀ k : Int, Q (.int k) H
theorem ok__law_span (T : Top K mg base) : DOk P w K mg base "_law_span" 1 ["_law_rule_here", "_law_column"] sp_span := by
  obtain ⟨fd, F⟩ := T.D__law_span
  refine ⟨fd, F.ok sc__law_span (fun vs H Q E h => ?_) (fun cdv A outer s H vs Q E hr h => ?_), F.bindsN fun _ _ _ _ _ _ us hl => match us, hl with | [_, _], _ => rfl, F.kp, T.g__law_span⟩
  · obtain ⟨t, ca, s, a, b, rest, c, rfl, _⟩ := h
    rfl
  · obtain ⟨t, ca, s, a, b, rest, c, rfl, ht, hca, ha, hb, q⟩ := h
    have ga : (iV c)[a]? = some (.int (c.getD a 0)) := int_get (by rw [List.getD_eq_getElem?_getD, List.getElem?_eq_getElem ha]; rfl)
    have gb : (iV c)[b]? = some (.int (c.getD b 0)) := int_get (by rw [List.getD_eq_getElem?_getD, List.getElem?_eq_getElem hb]; rfl)
-- slots: 0 _law_rule_here 1 _law_column
-- needs: 
    refine ⟨_, PSs.nox (pss_one (ps_ret (pe_op op_sub (pe_ix ix_tup (pv 1) (pe_op op_sub (pe_ix ix_tup (pv 0) pe_int (fun _ _ => rfl)) pe_int) (fun _ _ => rfl)) (pe_ix ix_tup (pv 1) (pe_op op_sub (pe_ix ix_tup (pv 0) pe_int (fun _ _ => rfl)) pe_int) (fun _ _ => rfl))))), ?_⟩
    exact ⟨_, rfl, _, rfl, t, _, _, .int ((b : Int) + 1), rfl, rfl, sqt ht, atI_nat (j := 2) rfl, _, _, rfl, rfl, ca, _, _, _, rfl, rfl, sqt hca, at_of (j := b) (by omega) gb, _, rfl, _, rfl, t, _, _, .int ((a : Int) + 1), rfl, rfl, sqt ht, atI_nat (j := 1) rfl, _, _, rfl, rfl, ca, _, _, _, rfl, rfl, sqt hca, at_of (j := a) (by omega) ga, _, _, rfl, rfl, q _⟩
def IsPair (R : RK) : Prop := (∃ a b d, R = .span a b d) ∨ (∃ a b m d, R = .clock a b m d) ∨ ∃ a b d, R = .alike a b d
def sp_pb (K : PySem.W.Frag) : Sp := fun vs H Q _ => ∃ (v : V) (la : Addr) (R : RK) (n : Nat) (line : List (List Int)) (k : Nat), vs = [v, .ref la, .int k] ∧ RT H R v ∧ R.ok n ∧ IsPair R ∧ TL K H la (cV line) ∧ LineOk n line ∧ k < line.length ∧ ∀ b : Bool, Q (.bl b) H
theorem ok__law_pair_broken (T : Top K mg base) : DOk P w K mg base "_law_pair_broken" 2 ["_law_rule_here", "_law_line_here", "_law_k"] (sp_pb K) := by
  have G__law_span := ok__law_span (P := P) (w := w) T
  obtain ⟨fd, F⟩ := T.D__law_pair_broken
  refine ⟨fd, F.ok sc__law_pair_broken (fun vs H Q E h => ?_) (fun cdv A outer s H vs Q E hr h => ?_), F.bindsN fun _ _ _ _ _ _ us hl => match us, hl with | [_, _, _], _ => rfl, F.kp, T.g__law_pair_broken⟩
  · obtain ⟨v, la, R, n, line, k, rfl, _⟩ := h
    rfl
  · obtain ⟨v, la, R, n, line, k, rfl, hR, hk, hp, ⟨xs, hla, tx⟩, hl, hkl, q⟩ := h
    obtain ⟨t0, rfl⟩ := RT.ref hR
    obtain ⟨ca, c, gk, hcm, hca⟩ := line_at (K := K) tx hkl
    have hcl := hl c hcm
-- slots: 0 _law_rule_here 1 _law_line_here 2 _law_k 3 _law_span_here
-- needs: _law_span
    refine ⟨_, PSs.nox (pss_cons (ps_set (i := 3) sc__law_pair_broken.nd rfl (by first | exact Or.inl rfl | exact Or.inr rfl) (dcall G__law_span (hr.mono (by decide)) (by rfl) (pa_cons (pv 0) (pa_cons (pe_ix ix_list (pv 1) (pv 2) (fun _ _ => rfl)) pa_nil))))
      (pss_cons (ps_if (pt_cmpR op_eq (pe_ix ix_tup (pv 0) pe_int (fun _ _ => rfl)) pe_str (nomark _))
        (pss_one (ps_ret (pe_cmpR op_notIn_seq (pv 3) (pe_ix ix_tup (pv 0) pe_int (fun _ _ => rfl)) (by rfl))))
        pss_nil)
      (pss_cons (ps_if (pt_cmpR op_eq (pe_ix ix_tup (pv 0) pe_int (fun _ _ => rfl)) pe_str (nomark _))
        (pss_one (ps_ret (pe_cmpR op_notIn_seq (pe_op op_mod (pv 3) (pe_ix ix_tup (pv 0) pe_int (fun _ _ => rfl))) (pe_ix ix_tup (pv 0) pe_int (fun _ _ => rfl)) (by rfl))))
        pss_nil)
      (pss_cons (ps_if (PW.pt (pw_or (pt_cmpR op_eq (pv 2) pe_int (nomark _)) (pw_or1 (pt_cmpR op_eq (pe_ix ix_tup (pe_ix ix_list (pv 1) (pv 2) (fun _ _ => rfl)) (pe_op op_sub (pe_ix ix_tup (pv 0) pe_int (fun _ _ => rfl)) pe_int) (fun _ _ => rfl)) (pe_ix ix_tup (pe_ix ix_list (pv 1) (pe_op op_sub (pv 2) pe_int) (fun _ _ => rfl)) (pe_op op_sub (pe_ix ix_tup (pv 0) pe_int (fun _ _ => rfl)) pe_int) (fun _ _ => rfl)) (nomark _)))))
        (pss_one (ps_ret pe_bl))
        pss_nil)
      (pss_one (ps_ret (pe_and (pe_cmpR op_in_seq (pv 3) (pe_ix ix_tup (pv 0) pe_int (fun _ _ => rfl)) (by rfl)) (pe_one (pe_cmpR op_eq (dcall G__law_span (hr.mono (by decide)) (by rfl) (pa_cons (pv 0) (pa_cons (pe_ix ix_list (pv 1) (pe_op op_sub (pv 2) pe_int) (fun _ _ => rfl)) pa_nil))) (pv 3) (nomark _)))))))))), ?_⟩
    rcases hp with ⟨a, b, d, rfl⟩ | ⟨a, b, m, d, rfl⟩ | ⟨a, b, d, rfl⟩
    · obtain ⟨t, qa, e, ht, hq⟩ := hR
      cases e
      obtain ⟨ha, hb, hd⟩ := hk
      refine ⟨_, rfl, _, rfl, _, rfl, la, _, _, .ref ca, rfl, rfl, hla, atI_nat gk, t0, ca, _, a, b, _, c, rfl, ht, hca, by omega, by omega, fun sp => ?_⟩
      exact ⟨_, rfl, t0, _, _, .str "span", rfl, rfl, sqt ht, atI_nat (j := 0) rfl, rfl, _, rfl, iteD rfl ⟨_, rfl, _, rfl, t0, _, _, .ref qa, rfl, rfl, sqt ht, atI_nat (j := 3) rfl, qa, _, rfl, .inl (sql hq), rfl, ints_flat _, q _⟩⟩
    · obtain ⟨t, qa, e, ht, hq⟩ := hR
      cases e
      obtain ⟨ha, hb, hm, _, hd⟩ := hk
      refine ⟨_, rfl, _, rfl, _, rfl, la, _, _, .ref ca, rfl, rfl, hla, atI_nat gk, t0, ca, _, a, b, _, c, rfl, ht, hca, by omega, by omega, fun sp => ?_⟩
      refine ⟨_, rfl, t0, _, _, .str "clock", rfl, rfl, sqt ht, atI_nat (j := 0) rfl, rfl, _, rfl, iteND (kne (by decide +kernel)) ?_⟩
      exact ⟨_, rfl, t0, _, _, .str "clock", rfl, rfl, sqt ht, atI_nat (j := 0) rfl, rfl, _, rfl, iteD rfl ⟨_, rfl, _, rfl, t0, _, _, .int m, rfl, rfl, sqt ht, atI_nat (j := 3) rfl, _, _, rfl, rfl, (by show 0 < m; omega), _, rfl, t0, _, _, .ref qa, rfl, rfl, sqt ht, atI_nat (j := 4) rfl, qa, _, rfl, .inl (sql hq), rfl, ints_flat _, q _⟩⟩
    · obtain ⟨t, qa, e, ht, hq⟩ := hR
      cases e
      obtain ⟨ha, hb, hd⟩ := hk
      have ga : (iV c)[a]? = some (.int (c.getD a 0)) := int_get (by rw [List.getD_eq_getElem?_getD, List.getElem?_eq_getElem (by omega)]; rfl)
      refine ⟨_, rfl, _, rfl, _, rfl, la, _, _, .ref ca, rfl, rfl, hla, atI_nat gk, t0, ca, _, a, b, _, c, rfl, ht, hca, by omega, by omega, fun sp => ?_⟩
      refine ⟨_, rfl, t0, _, _, .str "alike", rfl, rfl, sqt ht, atI_nat (j := 0) rfl, rfl, _, rfl, iteND (kne (by decide +kernel)) ?_⟩
      refine ⟨_, rfl, t0, _, _, .str "alike", rfl, rfl, sqt ht, atI_nat (j := 0) rfl, rfl, _, rfl, iteND (kne (by decide +kernel)) ?_⟩
      refine ⟨_, rfl, rfl, _, rfl, ite2 (fun _ => iteT (q false)) (fun hk0 => ?_)⟩
      have hk1 : k ≠ 0 := fun z => hk0 (decide_eq_true (by rw [z]; rfl))
      obtain ⟨cb, c2, gk2, hcm2, hcb⟩ := line_at (K := K) tx (show k - 1 < line.length by omega)
      have hcl2 := hl c2 hcm2
      have ga2 : (iV c2)[a]? = some (.int (c2.getD a 0)) := int_get (by rw [List.getD_eq_getElem?_getD, List.getElem?_eq_getElem (by omega)]; rfl)
      have ek : ((k : Nat) : Int) - 1 = ((k - 1 : Nat) : Int) := by omega
      refine ⟨_, rfl, _, rfl, la, _, _, .ref ca, rfl, rfl, hla, atI_nat gk, _, rfl, t0, _, _, .int ((a : Int) + 1), rfl, rfl, sqt ht, atI_nat (j := 1) rfl, _, _, rfl, rfl, ca, _, _, _, rfl, rfl, sqt hca, at_of (j := a) (by omega) ga, ?_⟩
      refine ⟨_, rfl, _, rfl, _, _, rfl, rfl, la, _, _, .ref cb, rfl, rfl, hla, at_of ek gk2, _, rfl, t0, _, _, .int ((a : Int) + 1), rfl, rfl, sqt ht, atI_nat (j := 1) rfl, _, _, rfl, rfl, cb, _, _, _, rfl, rfl, sqt hcb, at_of (j := a) (by omega) ga2, rfl, _, rfl, ite2 (fun _ => q false) (fun _ => ?_)⟩
      refine ⟨_, rfl, _, rfl, t0, _, _, .ref qa, rfl, rfl, sqt ht, atI_nat (j := 3) rfl, qa, _, rfl, .inl (sql hq), rfl, ints_flat _, _, rfl, ite2 (fun _ => ?_) (fun _ => q false)⟩
      exact ⟨_, rfl, _, rfl, _, rfl, _, _, rfl, rfl, la, _, _, .ref cb, rfl, rfl, hla, at_of ek gk2, t0, cb, _, a, b, _, c2, rfl, ht, hcb, by omega, by omega, fun sp2 => ⟨_, rfl, rfl, q _⟩⟩
def sp_ti : Sp := fun vs H Q _ => ∃ a b m : Int, vs = [.int a, .int b, .int m] ∧ ∀ b : Bool, Q (.bl b) H
theorem ok__law_turned_ill (T : Top K mg base) : DOk P w K mg base "_law_turned_ill" 1 ["_law_first", "_law_second", "_law_most"] sp_ti := by
  obtain ⟨fd, F⟩ := T.D__law_turned_ill
  refine ⟨fd, F.ok sc__law_turned_ill (fun vs H Q E h => ?_) (fun cdv A outer s H vs Q E hr h => ?_), F.bindsN fun _ _ _ _ _ _ us hl => match us, hl with | [_, _, _], _ => rfl, F.kp, T.g__law_turned_ill⟩
  · obtain ⟨a, b, m, rfl, _⟩ := h
    rfl
  · obtain ⟨a, b, m, rfl, q⟩ := h
-- slots: 0 _law_first 1 _law_second 2 _law_most
-- needs: 
    refine ⟨_, PSs.nox (pss_cons (ps_if (pt_cmpR op_gt (pv 0) (pv 2) (nomark _))
        (pss_one (ps_ret (pe_cmpR op_ge (pv 1) pe_int (nomark _))))
        pss_nil)
      (pss_one (ps_ret (pe_and (pe_cmpR op_lt (pv 0) (pe_op op_sub pe_int (pv 2)) (nomark _)) (pe_one (pe_cmpR op_le (pv 1) pe_int (nomark _))))))), ?_⟩
    exact ⟨_, rfl, _, rfl, _, _, rfl, rfl, _, rfl, ite2 (fun _ => ⟨_, rfl, _, _, rfl, rfl, q _⟩) (fun _ => ⟨_, rfl, _, rfl, _, _, rfl, rfl, _, _, rfl, rfl, _, rfl, ite2 (fun _ => ⟨_, rfl, _, _, rfl, rfl, q _⟩) (fun _ => q _)⟩)⟩
def sp_broken (K : PySem.W.Frag) : Sp := fun vs H Q _ => ∃ (v : V) (la : Addr) (R : RK) (n : Nat) (line : List (List Int)) (k : Nat), vs = [v, .ref la, .int k] ∧ RT H R v ∧ R.ok n ∧ TL K H la (cV line) ∧ LineOk n line ∧ k + 1 = line.length ∧ line.length ≤ 100 ∧ ∀ (b : Bool) H', Same H H' → Q (.bl b) H'
theorem ok__law_broken (T : Top K mg base) : DOk P w K mg base "_law_broken" 3 ["_law_rule_here", "_law_line_here", "_law_k"] (sp_broken K) := by
  have G__law_pair_broken := ok__law_pair_broken (P := P) (w := w) T
  have G__law_turned_ill := ok__law_turned_ill (P := P) (w := w) T
  obtain ⟨fd, F⟩ := T.D__law_broken
  refine ⟨fd, F.ok sc__law_broken (fun vs H Q E h => ?_) (fun cdv A outer s H vs Q E hr h => ?_), F.bindsN fun _ _ _ _ _ _ us hl => match us, hl with | [_, _, _], _ => rfl, F.kp, T.g__law_broken⟩
  · obtain ⟨v, la, R, n, line, k, rfl, _⟩ := h
    rfl
  · obtain ⟨v, la, R, n, line, k, rfl, hR, hk, ⟨xs, hla, tx⟩, hl, hkl, h100, q⟩ := h
    obtain ⟨t0, rfl⟩ := RT.ref hR
    have lxs : xs.length = line.length := by rw [tx.len]; exact List.length_map ..
-- slots: 0 _law_rule_here 1 _law_line_here 2 _law_k 3 _law_notes 4 _law_moves 5 _law_column 6 _law_j
-- needs: _law_pair_broken _law_turned_ill
    refine ⟨_, PSs.nox (pss_cons (ps_if (pt_cmpR op_in_seq (pe_ix ix_tup (pv 0) pe_int (fun _ _ => rfl)) (pe_lst (pa_cons pe_str (pa_cons pe_str (pa_cons pe_str pa_nil)))) (by rfl))
        (pss_one (ps_ret (dcall G__law_pair_broken (hr.mono (by decide)) (by rfl) (pa_cons (pv 0) (pa_cons (pv 1) (pa_cons (pv 2) pa_nil))))))
        pss_nil)
      (pss_cons (ps_if (pt_cmpR op_eq (pe_ix ix_tup (pv 0) pe_int (fun _ _ => rfl)) pe_str (nomark _))
        (pss_one (ps_ret (pe_and (pe_cmpR op_eq (pe_op op_mod (pv 2) (pe_ix ix_tup (pv 0) pe_int (fun _ _ => rfl))) (pe_ix ix_tup (pv 0) pe_int (fun _ _ => rfl)) (nomark _)) (pe_one (dcall G__law_pair_broken (hr.mono (by decide)) (by rfl) (pa_cons (pe_ix ix_tup (pv 0) pe_int (fun _ _ => rfl)) (pa_cons (pv 1) (pa_cons (pv 2) pa_nil))))))))
        pss_nil)
      (pss_cons (ps_set (i := 3) sc__law_broken.nd rfl (by first | exact Or.inl rfl | exact Or.inr rfl) (pe_lc (own := [("_law_column", 5)]) (g := gName 5) (tt := tYes) rfl sc__law_broken.nd (pi_list (pe_slice sl_list (pv 1) po_none (po_some (pe_op op_add (pv 2) pe_int)))) (blkOk_by (N := N__law_broken) (sc := defScope s__law_broken) (by decide +kernel)) (fun _ _ _ _ _ => pg_name (i := 5) sc__law_broken.nd rfl (Or.inl rfl)) (fun _ _ _ _ _ => pts_nil) (fun _ _ _ _ _ => (pe_ix (show IxR _ (rIxT K) from ix_tup) (pv 5) (pe_op op_sub (pe_ix (show IxR _ (rIxT K) from ix_tup) (pv 0) pe_int (fun _ _ => rfl)) pe_int) (fun _ _ => rfl)))))
      (pss_cons (ps_setLc (i := 4) (own := [("_law_j", 6)]) (g := gName 6) (tt := tYes) rfl sc__law_broken.nd rfl rfl (sw_true rfl rfl rfl (by decide +kernel)) (pi_range1 (by rfl) T.b_range (pa_cons (pv 2) pa_nil)) (blkOk_by (N := N__law_broken) (sc := defScope s__law_broken) (by decide +kernel)) (fun _ _ _ _ _ => pg_name (i := 6) sc__law_broken.nd rfl (Or.inl rfl)) (fun _ _ _ _ _ => pts_nil) (fun _ _ _ _ _ => (pe_op op_sub (pe_ix (show IxR _ (rIxL K) from ix_list) (pv 3) (pe_op op_add (pv 6) pe_int) (fun _ _ => rfl)) (pe_ix (show IxR _ (rIxL K) from ix_list) (pv 3) (pv 6) (fun _ _ => rfl)))))
      (pss_cons (ps_if (pt_cmpR op_eq (pe_ix ix_tup (pv 0) pe_int (fun _ _ => rfl)) pe_str (nomark _))
        (pss_one (ps_ret (pe_and (pe_cmpR op_gt (pv 2) pe_int (nomark _)) (pe_one (pe_cmpR op_notIn_seq (pe_ix ix_list (pv 4) (pe_un un_neg pe_int) (fun _ _ => rfl)) (pe_ix ix_tup (pv 0) pe_int (fun _ _ => rfl)) (by rfl))))))
        pss_nil)
      (pss_cons (ps_if (pt_cmpR op_eq (pe_ix ix_tup (pv 0) pe_int (fun _ _ => rfl)) pe_str (nomark _))
        (pss_one (ps_ret (pe_and (pe_cmpR op_gt (pv 2) pe_int (nomark _)) (pe_one (dcall G__law_turned_ill (hr.mono (by decide)) (by rfl) (pa_cons (pe_ix ix_list (pv 4) (pe_un un_neg pe_int) (fun _ _ => rfl)) (pa_cons (pe_ix ix_list (pv 4) (pe_un un_neg pe_int) (fun _ _ => rfl)) (pa_cons (pe_ix ix_tup (pv 0) pe_int (fun _ _ => rfl)) pa_nil))))))))
        pss_nil)
      (pss_cons (ps_if (pt_cmpR op_eq (pe_ix ix_tup (pv 0) pe_int (fun _ _ => rfl)) pe_str (nomark _))
        (pss_one (ps_ret (pe_and (pe_cmpR op_ge (pv 2) (pe_ix ix_tup (pv 0) pe_int (fun _ _ => rfl)) (nomark _)) (pe_one (pe_cmpR op_eq (pe_lenSetA (by rfl) T.b_len (by rfl) T.b_set (pe_slice sl_list (pv 3) (po_some (pe_op op_sub (pv 2) (pe_ix ix_tup (pv 0) pe_int (fun _ _ => rfl)))) po_none)) pe_int (nomark _))))))
        pss_nil)
      (pss_cons (ps_if (pt_cmpR op_eq (pe_ix ix_tup (pv 0) pe_int (fun _ _ => rfl)) pe_str (nomark _))
        (pss_one (ps_ret (pe_and (pe_cmpR op_eq (pe_ix ix_list (pv 3) (pv 2) (fun _ _ => rfl)) (pe_ix ix_tup (pv 0) pe_int (fun _ _ => rfl)) (nomark _)) (pe_one (pe_cmpR op_gt (pe_bm PySem.F.plainAttrs_list PySem.F.slot_list_count PySem.F.type_list_count mt_lcount (pv 3) (pa_cons (pe_ix ix_tup (pv 0) pe_int (fun _ _ => rfl)) pa_nil)) (pe_ix ix_tup (pv 0) pe_int (fun _ _ => rfl)) (nomark _))))))
        pss_nil)
      (pss_one (ps_ret (pe_and (pe_cmpR op_eq (pe_ix ix_tup (pv 0) pe_int (fun _ _ => rfl)) pe_str (nomark _)) (pe_and (pe_cmpR op_eq (pv 2) pe_int (nomark _)) (pe_one (pe_cmpR op_notIn_seq (pe_ix ix_list (pv 3) pe_int (fun _ _ => rfl)) (pe_ix ix_tup (pv 0) pe_int (fun _ _ => rfl)) (by rfl))))))))))))))), ?_⟩
    match R, hk, hR with
    | .span a b d, hk, ⟨t, qa, e, ht, hq⟩ =>
      cases e
      refine ⟨_, rfl, t0, _, _, .str "span", rfl, rfl, sqt ht, atI_nat (j := 0) rfl, by show 3 ≤ sizeLine; decide, fun lp nlp => ⟨lp, _, rfl, .inl (sql upd_same), rfl, rfl, _, rfl, iteY (by decide +kernel) ?_⟩⟩
      have S0 := Same.new (o := .lst [.str "span", .str "clock", .str "alike"]) nlp
      have ht0 := S0 _ _ ht
      exact ⟨_, rfl, _, rfl, _, rfl, .ref t0, la, .span a b d, n, line, k, rfl, ⟨t0, qa, rfl, ht0, S0 _ _ hq⟩, hk, .inl ⟨_, _, _, rfl⟩, ⟨xs, S0.seq hla, tx.mono S0.tk⟩, hl, by omega, fun b => q b _ S0⟩
    | .clock a b m d, hk, ⟨t, qa, e, ht, hq⟩ =>
      cases e
      refine ⟨_, rfl, t0, _, _, .str "clock", rfl, rfl, sqt ht, atI_nat (j := 0) rfl, by show 3 ≤ sizeLine; decide, fun lp nlp => ⟨lp, _, rfl, .inl (sql upd_same), rfl, rfl, _, rfl, iteY (by decide +kernel) ?_⟩⟩
      have S0 := Same.new (o := .lst [.str "span", .str "clock", .str "alike"]) nlp
      have ht0 := S0 _ _ ht
      exact ⟨_, rfl, _, rfl, _, rfl, .ref t0, la, .clock a b m d, n, line, k, rfl, ⟨t0, qa, rfl, ht0, S0 _ _ hq⟩, hk, .inr (.inl ⟨_, _, _, _, rfl⟩), ⟨xs, S0.seq hla, tx.mono S0.tk⟩, hl, by omega, fun b => q b _ S0⟩
    | .alike a b d, hk, ⟨t, qa, e, ht, hq⟩ =>
      cases e
      refine ⟨_, rfl, t0, _, _, .str "alike", rfl, rfl, sqt ht, atI_nat (j := 0) rfl, by show 3 ≤ sizeLine; decide, fun lp nlp => ⟨lp, _, rfl, .inl (sql upd_same), rfl, rfl, _, rfl, iteY (by decide +kernel) ?_⟩⟩
      have S0 := Same.new (o := .lst [.str "span", .str "clock", .str "alike"]) nlp
      have ht0 := S0 _ _ ht
      exact ⟨_, rfl, _, rfl, _, rfl, .ref t0, la, .alike a b d, n, line, k, rfl, ⟨t0, qa, rfl, ht0, S0 _ _ hq⟩, hk, .inr (.inr ⟨_, _, _, rfl⟩), ⟨xs, S0.seq hla, tx.mono S0.tk⟩, hl, by omega, fun b => q b _ S0⟩
    | .ev m r i, hk, ⟨t, u, e, ht, hi⟩ =>
      cases e
      refine ⟨_, rfl, t0, _, _, .str "every", rfl, rfl, sqt ht, atI_nat (j := 0) rfl, by show 3 ≤ sizeLine; decide, fun lp nlp => ⟨lp, _, rfl, .inl (sql upd_same), rfl, rfl, _, rfl, iteE (by decide +kernel) ?_⟩⟩
      have S0 := Same.new (o := .lst [.str "span", .str "clock", .str "alike"]) nlp
      have ht0 := S0 _ _ ht
      obtain ⟨k1, k2, k3, k4, k5, k6⟩ := id hk
      have hpi : IsPair i := by
        rcases k5 with h | h
        · exact .inl h
        · exact .inr (.inl h)
      refine ⟨_, rfl, t0, _, _, .str "every", rfl, rfl, sqt (ht0), atI_nat (j := 0) rfl, rfl, _, rfl, iteD rfl ?_⟩
      refine ⟨_, rfl, _, rfl, t0, _, _, .int m, rfl, rfl, sqt ht0, atI_nat (j := 1) rfl, _, _, rfl, rfl, (by show 0 < m; omega), _, rfl, t0, _, _, .int r, rfl, rfl, sqt ht0, atI_nat (j := 2) rfl, rfl, _, rfl, ite2 (fun _ => ?_) (fun _ => q false _ S0)⟩
      exact ⟨_, rfl, t0, _, _, u, rfl, rfl, sqt ht0, atI_nat (j := 3) rfl, _, rfl, _, rfl, u, la, i, n, line, k, rfl, hi.fk (FK.of S0) k6, k6, hpi, ⟨xs, S0.seq hla, tx.mono S0.tk⟩, hl, by omega, fun b => q b _ S0⟩
    | .move x d, hk, ⟨t, qa, e, ht, hq⟩ =>
      cases e
      refine ⟨_, rfl, t0, _, _, .str "move", rfl, rfl, sqt ht, atI_nat (j := 0) rfl, by show 3 ≤ sizeLine; decide, fun lp nlp => ⟨lp, _, rfl, .inl (sql upd_same), rfl, rfl, _, rfl, iteE (by decide +kernel) ?_⟩⟩
      have S0 := Same.new (o := .lst [.str "span", .str "clock", .str "alike"]) nlp
      have ht0 := S0 _ _ ht
      have hx : x < n := hk.1
      refine ⟨_, rfl, t0, _, _, .str "move", rfl, rfl, sqt (ht0), atI_nat (j := 0) rfl, rfl, _, rfl, iteND (kne (a := "move") (by decide +kernel)) ?_⟩
      refine ⟨_, rfl, _, rfl, _, _, rfl, rfl, _, rfl, la, _, rfl, S0.seq hla, fun sp nsp => ?_⟩
      have S1 := S0.trans (Same.new (o := .lst (cutV xs none (some ((k : Int) + 1)))) nsp)
      have hcut : cutV xs none (some ((k : Int) + 1)) = xs := by rw [cut_to xs (k + 1) (by omega), List.take_of_length_le (by omega)]
      refine ⟨sp, rfl, ⟨_, sql upd_same⟩, fun D hD => ?_⟩
      rw [hcut] at hD ⊢
      have hsp : upd (upd H lp (.lst [.str "span", .str "clock", .str "alike"])) sp (.lst xs) sp = some (.lst xs) := upd_same
      rw [hcut] at S1
      refine lc_list (K := K) (a := sp) (xs := xs) (fun j H' => Same H H' ∧ H' sp = some (.lst xs) ∧ ∃ ns : List Int, H' D = some (.lst (ns.map V.int)) ∧ ns.length = j)
        ⟨S1.trans (Same.new hD), (Same.new hD) _ _ hsp, [], upd_same, rfl⟩ (fun j H' _ ⟨_, h, _⟩ => sql h) ?_ ?_
      · rintro j v H' hv ⟨SJ, hsj, ns, hy, hns⟩
        obtain ⟨ca, cc, rfl, hcc, hca⟩ := (tx.mono SJ.tk).getV hv
        obtain ⟨c, hcj, rfl⟩ : ∃ c, line[j]? = some c ∧ cc = iV c := by
          unfold cV at hcc
          rw [List.getElem?_map] at hcc
          cases e : line[j]? with
          | none => rw [e] at hcc; cases hcc
          | some c => rw [e] at hcc; exact ⟨c, rfl, (Option.some.inj hcc).symm⟩
        have hcl := hl c (List.mem_of_getElem? hcj)
        have hj : j < line.length := (List.getElem?_eq_some_iff.mp hcj).1
        have ga : (iV c)[x]? = some (.int (c.getD x 0)) := int_get (by rw [List.getD_eq_getElem?_getD, List.getElem?_eq_getElem (by omega)]; rfl)
        refine ⟨rfl, _, rfl, _, rfl, t0, _, _, .int ((x : Int) + 1), rfl, rfl, sqt (SJ _ _ ht), atI_nat (j := 1) rfl, _, _, rfl, rfl, ca, _, _, _, rfl, rfl, sqt hca, at_of (j := x) (by omega) ga, _, hy, szl (by rw [List.length_map]; omega), SJ.mut (S1.free hD), ?_, ns ++ [c.getD x 0], ?_, ?_⟩
        · have hne : sp ≠ D := ne_of_none hsp hD
          rw [upd_ne hne]
          exact hsj
        · rw [upd_same, List.map_append]
          rfl
        · rw [List.length_append, hns]
          rfl
      rintro H1 ⟨SN, _, ns, hD1, hns⟩
      rw [lxs] at hns
      refine ⟨_, rfl, k, rfl, by omega, by omega, fun D2 hD2 => lc_range (lo := 0) (n := ((k : Nat) : Int).toNat) (fun j H' => Same H1 H' ∧ ∃ ms : List Int, H' D2 = some (.lst (ms.map V.int)) ∧ ms.length = j)
        ⟨Same.new hD2, [], upd_same, rfl⟩ ?_ ?_⟩
      · rintro j H' hj ⟨SJ, ms, hy, hms⟩
        have g1 : (ns.map V.int)[j + 1]? = some (.int (ns.getD (j + 1) 0)) := int_get (by rw [List.getD_eq_getElem?_getD, List.getElem?_eq_getElem (by omega)]; rfl)
        have g2 : (ns.map V.int)[j]? = some (.int (ns.getD j 0)) := int_get (by rw [List.getD_eq_getElem?_getD, List.getElem?_eq_getElem (by omega)]; rfl)
        refine ⟨rfl, _, rfl, _, rfl, _, _, rfl, rfl, D, _, _, _, rfl, rfl, sql (SJ _ _ hD1), at_of (j := j + 1) (by omega) g1, _, rfl, _, rfl, D, _, _, _, rfl, rfl, sql (SJ _ _ hD1), at_of (j := j) (by omega) g2, _, _, rfl, rfl, _, hy, szl (by rw [List.length_map]; omega), SJ.mut hD2, ms ++ [ns.getD (j + 1) 0 - ns.getD j 0], ?_, ?_⟩
        · rw [upd_same, List.map_append]
          rfl
        · rw [List.length_append, hms]
          rfl
      rintro H2 ⟨SM, ms, hD3, hms⟩
      have S2 := SN.trans SM
      have ht2 := S2 _ _ ht
      have hD4 := SM _ _ hD1
      have lms : ms.length = k := by omega
      have hq2 := S2 _ _ hq
      refine ⟨_, rfl, t0, _, _, .str "move", rfl, rfl, sqt (ht2), atI_nat (j := 0) rfl, rfl, _, rfl, iteD rfl ⟨_, rfl, _, _, rfl, rfl, _, rfl, ite2 (fun e => ?_) (fun _ => q false _ S2)⟩⟩
      have e1 : ((k : Nat) : Int) > 0 := of_decide_eq_true e
      obtain ⟨z, hz⟩ := at_any (xs := ms) (i := -1) (by omega) (by omega)
      exact ⟨_, rfl, _, rfl, D2, _, _, .int z, rfl, rfl, sql hD3, hz, _, rfl, t0, _, _, .ref qa, rfl, rfl, sqt ht2, atI_nat (j := 2) rfl, qa, _, rfl, .inl (sql hq2), rfl, ints_flat _, q _ _ S2⟩
    | .back x d, hk, ⟨t, e, ht⟩ =>
      cases e
      refine ⟨_, rfl, t0, _, _, .str "back", rfl, rfl, sqt ht, atI_nat (j := 0) rfl, by show 3 ≤ sizeLine; decide, fun lp nlp => ⟨lp, _, rfl, .inl (sql upd_same), rfl, rfl, _, rfl, iteE (by decide +kernel) ?_⟩⟩
      have S0 := Same.new (o := .lst [.str "span", .str "clock", .str "alike"]) nlp
      have ht0 := S0 _ _ ht
      have hx : x < n := hk.1
      refine ⟨_, rfl, t0, _, _, .str "back", rfl, rfl, sqt (ht0), atI_nat (j := 0) rfl, rfl, _, rfl, iteND (kne (a := "back") (by decide +kernel)) ?_⟩
      refine ⟨_, rfl, _, rfl, _, _, rfl, rfl, _, rfl, la, _, rfl, S0.seq hla, fun sp nsp => ?_⟩
      have S1 := S0.trans (Same.new (o := .lst (cutV xs none (some ((k : Int) + 1)))) nsp)
      have hcut : cutV xs none (some ((k : Int) + 1)) = xs := by rw [cut_to xs (k + 1) (by omega), List.take_of_length_le (by omega)]
      refine ⟨sp, rfl, ⟨_, sql upd_same⟩, fun D hD => ?_⟩
      rw [hcut] at hD ⊢
      have hsp : upd (upd H lp (.lst [.str "span", .str "clock", .str "alike"])) sp (.lst xs) sp = some (.lst xs) := upd_same
      rw [hcut] at S1
      refine lc_list (K := K) (a := sp) (xs := xs) (fun j H' => Same H H' ∧ H' sp = some (.lst xs) ∧ ∃ ns : List Int, H' D = some (.lst (ns.map V.int)) ∧ ns.length = j)
        ⟨S1.trans (Same.new hD), (Same.new hD) _ _ hsp, [], upd_same, rfl⟩ (fun j H' _ ⟨_, h, _⟩ => sql h) ?_ ?_
      · rintro j v H' hv ⟨SJ, hsj, ns, hy, hns⟩
        obtain ⟨ca, cc, rfl, hcc, hca⟩ := (tx.mono SJ.tk).getV hv
        obtain ⟨c, hcj, rfl⟩ : ∃ c, line[j]? = some c ∧ cc = iV c := by
          unfold cV at hcc
          rw [List.getElem?_map] at hcc
          cases e : line[j]? with
          | none => rw [e] at hcc; cases hcc
          | some c => rw [e] at hcc; exact ⟨c, rfl, (Option.some.inj hcc).symm⟩
        have hcl := hl c (List.mem_of_getElem? hcj)
        have hj : j < line.length := (List.getElem?_eq_some_iff.mp hcj).1
        have ga : (iV c)[x]? = some (.int (c.getD x 0)) := int_get (by rw [List.getD_eq_getElem?_getD, List.getElem?_eq_getElem (by omega)]; rfl)
        refine ⟨rfl, _, rfl, _, rfl, t0, _, _, .int ((x : Int) + 1), rfl, rfl, sqt (SJ _ _ ht), atI_nat (j := 1) rfl, _, _, rfl, rfl, ca, _, _, _, rfl, rfl, sqt hca, at_of (j := x) (by omega) ga, _, hy, szl (by rw [List.length_map]; omega), SJ.mut (S1.free hD), ?_, ns ++ [c.getD x 0], ?_, ?_⟩
        · have hne : sp ≠ D := ne_of_none hsp hD
          rw [upd_ne hne]
          exact hsj
        · rw [upd_same, List.map_append]
          rfl
        · rw [List.length_append, hns]
          rfl
      rintro H1 ⟨SN, _, ns, hD1, hns⟩
      rw [lxs] at hns
      refine ⟨_, rfl, k, rfl, by omega, by omega, fun D2 hD2 => lc_range (lo := 0) (n := ((k : Nat) : Int).toNat) (fun j H' => Same H1 H' ∧ ∃ ms : List Int, H' D2 = some (.lst (ms.map V.int)) ∧ ms.length = j)
        ⟨Same.new hD2, [], upd_same, rfl⟩ ?_ ?_⟩
      · rintro j H' hj ⟨SJ, ms, hy, hms⟩
        have g1 : (ns.map V.int)[j + 1]? = some (.int (ns.getD (j + 1) 0)) := int_get (by rw [List.getD_eq_getElem?_getD, List.getElem?_eq_getElem (by omega)]; rfl)
        have g2 : (ns.map V.int)[j]? = some (.int (ns.getD j 0)) := int_get (by rw [List.getD_eq_getElem?_getD, List.getElem?_eq_getElem (by omega)]; rfl)
        refine ⟨rfl, _, rfl, _, rfl, _, _, rfl, rfl, D, _, _, _, rfl, rfl, sql (SJ _ _ hD1), at_of (j := j + 1) (by omega) g1, _, rfl, _, rfl, D, _, _, _, rfl, rfl, sql (SJ _ _ hD1), at_of (j := j) (by omega) g2, _, _, rfl, rfl, _, hy, szl (by rw [List.length_map]; omega), SJ.mut hD2, ms ++ [ns.getD (j + 1) 0 - ns.getD j 0], ?_, ?_⟩
        · rw [upd_same, List.map_append]
          rfl
        · rw [List.length_append, hms]
          rfl
      rintro H2 ⟨SM, ms, hD3, hms⟩
      have S2 := SN.trans SM
      have ht2 := S2 _ _ ht
      have hD4 := SM _ _ hD1
      have lms : ms.length = k := by omega
      refine ⟨_, rfl, t0, _, _, .str "back", rfl, rfl, sqt (ht2), atI_nat (j := 0) rfl, rfl, _, rfl, iteND (kne (a := "back") (by decide +kernel)) ⟨_, rfl, t0, _, _, .str "back", rfl, rfl, sqt (ht2), atI_nat (j := 0) rfl, rfl, _, rfl, iteD rfl ⟨_, rfl, _, _, rfl, rfl, _, rfl, ite2 (fun e => ?_) (fun _ => q false _ S2)⟩⟩⟩
      have e1 : ((k : Nat) : Int) > 1 := of_decide_eq_true e
      obtain ⟨z, hz⟩ := at_any (xs := ms) (i := -1) (by omega) (by omega)
      obtain ⟨z2, hz2⟩ := at_any (xs := ms) (i := -2) (by omega) (by omega)
      exact ⟨_, rfl, _, rfl, D2, _, _, .int z2, rfl, rfl, sql hD3, hz2, _, rfl, _, rfl, D2, _, _, .int z, rfl, rfl, sql hD3, hz, _, rfl, t0, _, _, .int d, rfl, rfl, sqt ht2, atI_nat (j := 2) rfl, z2, z, d, rfl, fun b => q b _ S2⟩
    | .held x kk, hk, ⟨t, e, ht⟩ =>
      cases e
      refine ⟨_, rfl, t0, _, _, .str "held", rfl, rfl, sqt ht, atI_nat (j := 0) rfl, by show 3 ≤ sizeLine; decide, fun lp nlp => ⟨lp, _, rfl, .inl (sql upd_same), rfl, rfl, _, rfl, iteE (by decide +kernel) ?_⟩⟩
      have S0 := Same.new (o := .lst [.str "span", .str "clock", .str "alike"]) nlp
      have ht0 := S0 _ _ ht
      have hx : x < n := hk.1
      refine ⟨_, rfl, t0, _, _, .str "held", rfl, rfl, sqt (ht0), atI_nat (j := 0) rfl, rfl, _, rfl, iteND (kne (a := "held") (by decide +kernel)) ?_⟩
      refine ⟨_, rfl, _, rfl, _, _, rfl, rfl, _, rfl, la, _, rfl, S0.seq hla, fun sp nsp => ?_⟩
      have S1 := S0.trans (Same.new (o := .lst (cutV xs none (some ((k : Int) + 1)))) nsp)
      have hcut : cutV xs none (some ((k : Int) + 1)) = xs := by rw [cut_to xs (k + 1) (by omega), List.take_of_length_le (by omega)]
      refine ⟨sp, rfl, ⟨_, sql upd_same⟩, fun D hD => ?_⟩
      rw [hcut] at hD ⊢
      have hsp : upd (upd H lp (.lst [.str "span", .str "clock", .str "alike"])) sp (.lst xs) sp = some (.lst xs) := upd_same
      rw [hcut] at S1
      refine lc_list (K := K) (a := sp) (xs := xs) (fun j H' => Same H H' ∧ H' sp = some (.lst xs) ∧ ∃ ns : List Int, H' D = some (.lst (ns.map V.int)) ∧ ns.length = j)
        ⟨S1.trans (Same.new hD), (Same.new hD) _ _ hsp, [], upd_same, rfl⟩ (fun j H' _ ⟨_, h, _⟩ => sql h) ?_ ?_
      · rintro j v H' hv ⟨SJ, hsj, ns, hy, hns⟩
        obtain ⟨ca, cc, rfl, hcc, hca⟩ := (tx.mono SJ.tk).getV hv
        obtain ⟨c, hcj, rfl⟩ : ∃ c, line[j]? = some c ∧ cc = iV c := by
          unfold cV at hcc
          rw [List.getElem?_map] at hcc
          cases e : line[j]? with
          | none => rw [e] at hcc; cases hcc
          | some c => rw [e] at hcc; exact ⟨c, rfl, (Option.some.inj hcc).symm⟩
        have hcl := hl c (List.mem_of_getElem? hcj)
        have hj : j < line.length := (List.getElem?_eq_some_iff.mp hcj).1
        have ga : (iV c)[x]? = some (.int (c.getD x 0)) := int_get (by rw [List.getD_eq_getElem?_getD, List.getElem?_eq_getElem (by omega)]; rfl)
        refine ⟨rfl, _, rfl, _, rfl, t0, _, _, .int ((x : Int) + 1), rfl, rfl, sqt (SJ _ _ ht), atI_nat (j := 1) rfl, _, _, rfl, rfl, ca, _, _, _, rfl, rfl, sqt hca, at_of (j := x) (by omega) ga, _, hy, szl (by rw [List.length_map]; omega), SJ.mut (S1.free hD), ?_, ns ++ [c.getD x 0], ?_, ?_⟩
        · have hne : sp ≠ D := ne_of_none hsp hD
          rw [upd_ne hne]
          exact hsj
        · rw [upd_same, List.map_append]
          rfl
        · rw [List.length_append, hns]
          rfl
      rintro H1 ⟨SN, _, ns, hD1, hns⟩
      rw [lxs] at hns
      refine ⟨_, rfl, k, rfl, by omega, by omega, fun D2 hD2 => lc_range (lo := 0) (n := ((k : Nat) : Int).toNat) (fun j H' => Same H1 H' ∧ ∃ ms : List Int, H' D2 = some (.lst (ms.map V.int)) ∧ ms.length = j)
        ⟨Same.new hD2, [], upd_same, rfl⟩ ?_ ?_⟩
      · rintro j H' hj ⟨SJ, ms, hy, hms⟩
        have g1 : (ns.map V.int)[j + 1]? = some (.int (ns.getD (j + 1) 0)) := int_get (by rw [List.getD_eq_getElem?_getD, List.getElem?_eq_getElem (by omega)]; rfl)
        have g2 : (ns.map V.int)[j]? = some (.int (ns.getD j 0)) := int_get (by rw [List.getD_eq_getElem?_getD, List.getElem?_eq_getElem (by omega)]; rfl)
        refine ⟨rfl, _, rfl, _, rfl, _, _, rfl, rfl, D, _, _, _, rfl, rfl, sql (SJ _ _ hD1), at_of (j := j + 1) (by omega) g1, _, rfl, _, rfl, D, _, _, _, rfl, rfl, sql (SJ _ _ hD1), at_of (j := j) (by omega) g2, _, _, rfl, rfl, _, hy, szl (by rw [List.length_map]; omega), SJ.mut hD2, ms ++ [ns.getD (j + 1) 0 - ns.getD j 0], ?_, ?_⟩
        · rw [upd_same, List.map_append]
          rfl
        · rw [List.length_append, hms]
          rfl
      rintro H2 ⟨SM, ms, hD3, hms⟩
      have S2 := SN.trans SM
      have ht2 := S2 _ _ ht
      have hD4 := SM _ _ hD1
      have lms : ms.length = k := by omega
      refine ⟨_, rfl, t0, _, _, .str "held", rfl, rfl, sqt (ht2), atI_nat (j := 0) rfl, rfl, _, rfl, iteND (kne (a := "held") (by decide +kernel)) ⟨_, rfl, t0, _, _, .str "held", rfl, rfl, sqt (ht2), atI_nat (j := 0) rfl, rfl, _, rfl, iteND (kne (a := "held") (by decide +kernel)) ⟨_, rfl, t0, _, _, .str "held", rfl, rfl, sqt (ht2), atI_nat (j := 0) rfl, rfl, _, rfl, iteD rfl ⟨_, rfl, _, rfl, t0, _, _, .int kk, rfl, rfl, sqt ht2, atI_nat (j := 2) rfl, _, _, rfl, rfl, _, rfl, ite2 (fun e => ?_) (fun _ => q false _ S2)⟩⟩⟩⟩
      have e1 : ((k : Nat) : Int) ≥ kk := of_decide_eq_true e
      refine ⟨_, rfl, _, rfl, _, rfl, t0, _, _, .int kk, rfl, rfl, sqt ht2, atI_nat (j := 2) rfl, _, _, rfl, rfl, _, rfl, D, _, rfl, sql hD4, fun sp2 nsp2 => ?_⟩
      refine ⟨sp2, ns.drop (((k : Nat) : Int) - kk).toNat, rfl, sql (by rw [upd_same, cut_from _ (((k : Nat) : Int) - kk).toNat (by show ((k : Nat) : Int) - kk = _; omega), List.map_drop]), by rw [List.length_drop]; omega, fun z => ⟨rfl, q _ _ (S2.trans (Same.new nsp2))⟩⟩
    | .times x y lo hi, hk, ⟨t, e, ht⟩ =>
      cases e
      refine ⟨_, rfl, t0, _, _, .str "times", rfl, rfl, sqt ht, atI_nat (j := 0) rfl, by show 3 ≤ sizeLine; decide, fun lp nlp => ⟨lp, _, rfl, .inl (sql upd_same), rfl, rfl, _, rfl, iteE (by decide +kernel) ?_⟩⟩
      have S0 := Same.new (o := .lst [.str "span", .str "clock", .str "alike"]) nlp
      have ht0 := S0 _ _ ht
      have hx : x < n := hk.1
      refine ⟨_, rfl, t0, _, _, .str "times", rfl, rfl, sqt (ht0), atI_nat (j := 0) rfl, rfl, _, rfl, iteND (kne (a := "times") (by decide +kernel)) ?_⟩
      refine ⟨_, rfl, _, rfl, _, _, rfl, rfl, _, rfl, la, _, rfl, S0.seq hla, fun sp nsp => ?_⟩
      have S1 := S0.trans (Same.new (o := .lst (cutV xs none (some ((k : Int) + 1)))) nsp)
      have hcut : cutV xs none (some ((k : Int) + 1)) = xs := by rw [cut_to xs (k + 1) (by omega), List.take_of_length_le (by omega)]
      refine ⟨sp, rfl, ⟨_, sql upd_same⟩, fun D hD => ?_⟩
      rw [hcut] at hD ⊢
      have hsp : upd (upd H lp (.lst [.str "span", .str "clock", .str "alike"])) sp (.lst xs) sp = some (.lst xs) := upd_same
      rw [hcut] at S1
      refine lc_list (K := K) (a := sp) (xs := xs) (fun j H' => Same H H' ∧ H' sp = some (.lst xs) ∧ ∃ ns : List Int, H' D = some (.lst (ns.map V.int)) ∧ ns.length = j)
        ⟨S1.trans (Same.new hD), (Same.new hD) _ _ hsp, [], upd_same, rfl⟩ (fun j H' _ ⟨_, h, _⟩ => sql h) ?_ ?_
      · rintro j v H' hv ⟨SJ, hsj, ns, hy, hns⟩
        obtain ⟨ca, cc, rfl, hcc, hca⟩ := (tx.mono SJ.tk).getV hv
        obtain ⟨c, hcj, rfl⟩ : ∃ c, line[j]? = some c ∧ cc = iV c := by
          unfold cV at hcc
          rw [List.getElem?_map] at hcc
          cases e : line[j]? with
          | none => rw [e] at hcc; cases hcc
          | some c => rw [e] at hcc; exact ⟨c, rfl, (Option.some.inj hcc).symm⟩
        have hcl := hl c (List.mem_of_getElem? hcj)
        have hj : j < line.length := (List.getElem?_eq_some_iff.mp hcj).1
        have ga : (iV c)[x]? = some (.int (c.getD x 0)) := int_get (by rw [List.getD_eq_getElem?_getD, List.getElem?_eq_getElem (by omega)]; rfl)
        refine ⟨rfl, _, rfl, _, rfl, t0, _, _, .int ((x : Int) + 1), rfl, rfl, sqt (SJ _ _ ht), atI_nat (j := 1) rfl, _, _, rfl, rfl, ca, _, _, _, rfl, rfl, sqt hca, at_of (j := x) (by omega) ga, _, hy, szl (by rw [List.length_map]; omega), SJ.mut (S1.free hD), ?_, ns ++ [c.getD x 0], ?_, ?_⟩
        · have hne : sp ≠ D := ne_of_none hsp hD
          rw [upd_ne hne]
          exact hsj
        · rw [upd_same, List.map_append]
          rfl
        · rw [List.length_append, hns]
          rfl
      rintro H1 ⟨SN, _, ns, hD1, hns⟩
      rw [lxs] at hns
      refine ⟨_, rfl, k, rfl, by omega, by omega, fun D2 hD2 => lc_range (lo := 0) (n := ((k : Nat) : Int).toNat) (fun j H' => Same H1 H' ∧ ∃ ms : List Int, H' D2 = some (.lst (ms.map V.int)) ∧ ms.length = j)
        ⟨Same.new hD2, [], upd_same, rfl⟩ ?_ ?_⟩
      · rintro j H' hj ⟨SJ, ms, hy, hms⟩
        have g1 : (ns.map V.int)[j + 1]? = some (.int (ns.getD (j + 1) 0)) := int_get (by rw [List.getD_eq_getElem?_getD, List.getElem?_eq_getElem (by omega)]; rfl)
        have g2 : (ns.map V.int)[j]? = some (.int (ns.getD j 0)) := int_get (by rw [List.getD_eq_getElem?_getD, List.getElem?_eq_getElem (by omega)]; rfl)
        refine ⟨rfl, _, rfl, _, rfl, _, _, rfl, rfl, D, _, _, _, rfl, rfl, sql (SJ _ _ hD1), at_of (j := j + 1) (by omega) g1, _, rfl, _, rfl, D, _, _, _, rfl, rfl, sql (SJ _ _ hD1), at_of (j := j) (by omega) g2, _, _, rfl, rfl, _, hy, szl (by rw [List.length_map]; omega), SJ.mut hD2, ms ++ [ns.getD (j + 1) 0 - ns.getD j 0], ?_, ?_⟩
        · rw [upd_same, List.map_append]
          rfl
        · rw [List.length_append, hms]
          rfl
      rintro H2 ⟨SM, ms, hD3, hms⟩
      have S2 := SN.trans SM
      have ht2 := S2 _ _ ht
      have hD4 := SM _ _ hD1
      have lms : ms.length = k := by omega
      have gk : (ns.map V.int)[k]? = some (.int (ns.getD k 0)) := int_get (by rw [List.getD_eq_getElem?_getD, List.getElem?_eq_getElem (by omega)]; rfl)
      refine ⟨_, rfl, t0, _, _, .str "times", rfl, rfl, sqt (ht2), atI_nat (j := 0) rfl, rfl, _, rfl, iteND (kne (a := "times") (by decide +kernel)) ⟨_, rfl, t0, _, _, .str "times", rfl, rfl, sqt (ht2), atI_nat (j := 0) rfl, rfl, _, rfl, iteND (kne (a := "times") (by decide +kernel)) ⟨_, rfl, t0, _, _, .str "times", rfl, rfl, sqt (ht2), atI_nat (j := 0) rfl, rfl, _, rfl, iteND (kne (a := "times") (by decide +kernel)) ⟨_, rfl, t0, _, _, .str "times", rfl, rfl, sqt (ht2), atI_nat (j := 0) rfl, rfl, _, rfl, iteD rfl ⟨_, rfl, _, rfl, D, _, _, _, rfl, rfl, sql hD4, atI_nat gk, _, rfl, t0, _, _, .int y, rfl, rfl, sqt ht2, atI_nat (j := 2) rfl, rfl, _, rfl, ite2 (fun e => ?_) (fun _ => q false _ S2)⟩⟩⟩⟩⟩
      exact ⟨_, rfl, .inl ⟨rfl, _, sql hD4⟩, _, rfl, t0, _, _, .int y, rfl, rfl, sqt ht2, atI_nat (j := 2) rfl, D, ns, y, rfl, rfl, sql hD4, _, rfl, t0, _, _, .int hi, rfl, rfl, sqt ht2, atI_nat (j := 4) rfl, _, _, rfl, rfl, q _ _ S2⟩
    | .beg x d, hk, ⟨t, qa, e, ht, hq⟩ =>
      cases e
      refine ⟨_, rfl, t0, _, _, .str "begin", rfl, rfl, sqt ht, atI_nat (j := 0) rfl, by show 3 ≤ sizeLine; decide, fun lp nlp => ⟨lp, _, rfl, .inl (sql upd_same), rfl, rfl, _, rfl, iteE (by decide +kernel) ?_⟩⟩
      have S0 := Same.new (o := .lst [.str "span", .str "clock", .str "alike"]) nlp
      have ht0 := S0 _ _ ht
      have hx : x < n := hk.1
      refine ⟨_, rfl, t0, _, _, .str "begin", rfl, rfl, sqt (ht0), atI_nat (j := 0) rfl, rfl, _, rfl, iteND (kne (a := "begin") (by decide +kernel)) ?_⟩
      refine ⟨_, rfl, _, rfl, _, _, rfl, rfl, _, rfl, la, _, rfl, S0.seq hla, fun sp nsp => ?_⟩
      have S1 := S0.trans (Same.new (o := .lst (cutV xs none (some ((k : Int) + 1)))) nsp)
      have hcut : cutV xs none (some ((k : Int) + 1)) = xs := by rw [cut_to xs (k + 1) (by omega), List.take_of_length_le (by omega)]
      refine ⟨sp, rfl, ⟨_, sql upd_same⟩, fun D hD => ?_⟩
      rw [hcut] at hD ⊢
      have hsp : upd (upd H lp (.lst [.str "span", .str "clock", .str "alike"])) sp (.lst xs) sp = some (.lst xs) := upd_same
      rw [hcut] at S1
      refine lc_list (K := K) (a := sp) (xs := xs) (fun j H' => Same H H' ∧ H' sp = some (.lst xs) ∧ ∃ ns : List Int, H' D = some (.lst (ns.map V.int)) ∧ ns.length = j)
        ⟨S1.trans (Same.new hD), (Same.new hD) _ _ hsp, [], upd_same, rfl⟩ (fun j H' _ ⟨_, h, _⟩ => sql h) ?_ ?_
      · rintro j v H' hv ⟨SJ, hsj, ns, hy, hns⟩
        obtain ⟨ca, cc, rfl, hcc, hca⟩ := (tx.mono SJ.tk).getV hv
        obtain ⟨c, hcj, rfl⟩ : ∃ c, line[j]? = some c ∧ cc = iV c := by
          unfold cV at hcc
          rw [List.getElem?_map] at hcc
          cases e : line[j]? with
          | none => rw [e] at hcc; cases hcc
          | some c => rw [e] at hcc; exact ⟨c, rfl, (Option.some.inj hcc).symm⟩
        have hcl := hl c (List.mem_of_getElem? hcj)
        have hj : j < line.length := (List.getElem?_eq_some_iff.mp hcj).1
        have ga : (iV c)[x]? = some (.int (c.getD x 0)) := int_get (by rw [List.getD_eq_getElem?_getD, List.getElem?_eq_getElem (by omega)]; rfl)
        refine ⟨rfl, _, rfl, _, rfl, t0, _, _, .int ((x : Int) + 1), rfl, rfl, sqt (SJ _ _ ht), atI_nat (j := 1) rfl, _, _, rfl, rfl, ca, _, _, _, rfl, rfl, sqt hca, at_of (j := x) (by omega) ga, _, hy, szl (by rw [List.length_map]; omega), SJ.mut (S1.free hD), ?_, ns ++ [c.getD x 0], ?_, ?_⟩
        · have hne : sp ≠ D := ne_of_none hsp hD
          rw [upd_ne hne]
          exact hsj
        · rw [upd_same, List.map_append]
          rfl
        · rw [List.length_append, hns]
          rfl
      rintro H1 ⟨SN, _, ns, hD1, hns⟩
      rw [lxs] at hns
      refine ⟨_, rfl, k, rfl, by omega, by omega, fun D2 hD2 => lc_range (lo := 0) (n := ((k : Nat) : Int).toNat) (fun j H' => Same H1 H' ∧ ∃ ms : List Int, H' D2 = some (.lst (ms.map V.int)) ∧ ms.length = j)
        ⟨Same.new hD2, [], upd_same, rfl⟩ ?_ ?_⟩
      · rintro j H' hj ⟨SJ, ms, hy, hms⟩
        have g1 : (ns.map V.int)[j + 1]? = some (.int (ns.getD (j + 1) 0)) := int_get (by rw [List.getD_eq_getElem?_getD, List.getElem?_eq_getElem (by omega)]; rfl)
        have g2 : (ns.map V.int)[j]? = some (.int (ns.getD j 0)) := int_get (by rw [List.getD_eq_getElem?_getD, List.getElem?_eq_getElem (by omega)]; rfl)
        refine ⟨rfl, _, rfl, _, rfl, _, _, rfl, rfl, D, _, _, _, rfl, rfl, sql (SJ _ _ hD1), at_of (j := j + 1) (by omega) g1, _, rfl, _, rfl, D, _, _, _, rfl, rfl, sql (SJ _ _ hD1), at_of (j := j) (by omega) g2, _, _, rfl, rfl, _, hy, szl (by rw [List.length_map]; omega), SJ.mut hD2, ms ++ [ns.getD (j + 1) 0 - ns.getD j 0], ?_, ?_⟩
        · rw [upd_same, List.map_append]
          rfl
        · rw [List.length_append, hms]
          rfl
      rintro H2 ⟨SM, ms, hD3, hms⟩
      have S2 := SN.trans SM
      have ht2 := S2 _ _ ht
      have hD4 := SM _ _ hD1
      have lms : ms.length = k := by omega
      have hq2 := S2 _ _ hq
      have g0 : (ns.map V.int)[0]? = some (.int (ns.getD 0 0)) := int_get (by rw [List.getD_eq_getElem?_getD, List.getElem?_eq_getElem (by omega)]; rfl)
      refine ⟨_, rfl, t0, _, _, .str "begin", rfl, rfl, sqt (ht2), atI_nat (j := 0) rfl, rfl, _, rfl, iteND (kne (a := "begin") (by decide +kernel)) ⟨_, rfl, t0, _, _, .str "begin", rfl, rfl, sqt (ht2), atI_nat (j := 0) rfl, rfl, _, rfl, iteND (kne (a := "begin") (by decide +kernel)) ⟨_, rfl, t0, _, _, .str "begin", rfl, rfl, sqt (ht2), atI_nat (j := 0) rfl, rfl, _, rfl, iteND (kne (a := "begin") (by decide +kernel)) ⟨_, rfl, t0, _, _, .str "begin", rfl, rfl, sqt (ht2), atI_nat (j := 0) rfl, rfl, _, rfl, iteND (kne (a := "begin") (by decide +kernel)) ⟨_, rfl, t0, _, _, .str "begin", rfl, rfl, sqt (ht2), atI_nat (j := 0) rfl, rfl, _, rfl, iteD rfl ⟨_, rfl, rfl, _, rfl, ite2 (fun e => ?_) (fun _ => q false _ S2)⟩⟩⟩⟩⟩⟩
      exact ⟨_, rfl, D, _, _, _, rfl, rfl, sql hD4, atI_nat (j := 0) g0, _, rfl, t0, _, _, .ref qa, rfl, rfl, sqt ht2, atI_nat (j := 2) rfl, qa, _, rfl, .inl (sql hq2), rfl, ints_flat _, q _ _ S2⟩
    | .clo x d, hk, ⟨t, qa, e, ht, hq⟩ =>
      cases e
      refine ⟨_, rfl, t0, _, _, .str "close", rfl, rfl, sqt ht, atI_nat (j := 0) rfl, by show 3 ≤ sizeLine; decide, fun lp nlp => ⟨lp, _, rfl, .inl (sql upd_same), rfl, rfl, _, rfl, iteE (by decide +kernel) ?_⟩⟩
      have S0 := Same.new (o := .lst [.str "span", .str "clock", .str "alike"]) nlp
      have ht0 := S0 _ _ ht
      have hx : x < n := hk.1
      refine ⟨_, rfl, t0, _, _, .str "close", rfl, rfl, sqt (ht0), atI_nat (j := 0) rfl, rfl, _, rfl, iteND (kne (a := "close") (by decide +kernel)) ?_⟩
      refine ⟨_, rfl, _, rfl, _, _, rfl, rfl, _, rfl, la, _, rfl, S0.seq hla, fun sp nsp => ?_⟩
      have S1 := S0.trans (Same.new (o := .lst (cutV xs none (some ((k : Int) + 1)))) nsp)
      have hcut : cutV xs none (some ((k : Int) + 1)) = xs := by rw [cut_to xs (k + 1) (by omega), List.take_of_length_le (by omega)]
      refine ⟨sp, rfl, ⟨_, sql upd_same⟩, fun D hD => ?_⟩
      rw [hcut] at hD ⊢
      have hsp : upd (upd H lp (.lst [.str "span", .str "clock", .str "alike"])) sp (.lst xs) sp = some (.lst xs) := upd_same
      rw [hcut] at S1
      refine lc_list (K := K) (a := sp) (xs := xs) (fun j H' => Same H H' ∧ H' sp = some (.lst xs) ∧ ∃ ns : List Int, H' D = some (.lst (ns.map V.int)) ∧ ns.length = j)
        ⟨S1.trans (Same.new hD), (Same.new hD) _ _ hsp, [], upd_same, rfl⟩ (fun j H' _ ⟨_, h, _⟩ => sql h) ?_ ?_
      · rintro j v H' hv ⟨SJ, hsj, ns, hy, hns⟩
        obtain ⟨ca, cc, rfl, hcc, hca⟩ := (tx.mono SJ.tk).getV hv
        obtain ⟨c, hcj, rfl⟩ : ∃ c, line[j]? = some c ∧ cc = iV c := by
          unfold cV at hcc
          rw [List.getElem?_map] at hcc
          cases e : line[j]? with
          | none => rw [e] at hcc; cases hcc
          | some c => rw [e] at hcc; exact ⟨c, rfl, (Option.some.inj hcc).symm⟩
        have hcl := hl c (List.mem_of_getElem? hcj)
        have hj : j < line.length := (List.getElem?_eq_some_iff.mp hcj).1
        have ga : (iV c)[x]? = some (.int (c.getD x 0)) := int_get (by rw [List.getD_eq_getElem?_getD, List.getElem?_eq_getElem (by omega)]; rfl)
        refine ⟨rfl, _, rfl, _, rfl, t0, _, _, .int ((x : Int) + 1), rfl, rfl, sqt (SJ _ _ ht), atI_nat (j := 1) rfl, _, _, rfl, rfl, ca, _, _, _, rfl, rfl, sqt hca, at_of (j := x) (by omega) ga, _, hy, szl (by rw [List.length_map]; omega), SJ.mut (S1.free hD), ?_, ns ++ [c.getD x 0], ?_, ?_⟩
        · have hne : sp ≠ D := ne_of_none hsp hD
          rw [upd_ne hne]
          exact hsj
        · rw [upd_same, List.map_append]
          rfl
        · rw [List.length_append, hns]
          rfl
      rintro H1 ⟨SN, _, ns, hD1, hns⟩
      rw [lxs] at hns
      refine ⟨_, rfl, k, rfl, by omega, by omega, fun D2 hD2 => lc_range (lo := 0) (n := ((k : Nat) : Int).toNat) (fun j H' => Same H1 H' ∧ ∃ ms : List Int, H' D2 = some (.lst (ms.map V.int)) ∧ ms.length = j)
        ⟨Same.new hD2, [], upd_same, rfl⟩ ?_ ?_⟩
      · rintro j H' hj ⟨SJ, ms, hy, hms⟩
        have g1 : (ns.map V.int)[j + 1]? = some (.int (ns.getD (j + 1) 0)) := int_get (by rw [List.getD_eq_getElem?_getD, List.getElem?_eq_getElem (by omega)]; rfl)
        have g2 : (ns.map V.int)[j]? = some (.int (ns.getD j 0)) := int_get (by rw [List.getD_eq_getElem?_getD, List.getElem?_eq_getElem (by omega)]; rfl)
        refine ⟨rfl, _, rfl, _, rfl, _, _, rfl, rfl, D, _, _, _, rfl, rfl, sql (SJ _ _ hD1), at_of (j := j + 1) (by omega) g1, _, rfl, _, rfl, D, _, _, _, rfl, rfl, sql (SJ _ _ hD1), at_of (j := j) (by omega) g2, _, _, rfl, rfl, _, hy, szl (by rw [List.length_map]; omega), SJ.mut hD2, ms ++ [ns.getD (j + 1) 0 - ns.getD j 0], ?_, ?_⟩
        · rw [upd_same, List.map_append]
          rfl
        · rw [List.length_append, hms]
          rfl
      rintro H2 ⟨SM, ms, hD3, hms⟩
      have S2 := SN.trans SM
      have ht2 := S2 _ _ ht
      have hD4 := SM _ _ hD1
      have lms : ms.length = k := by omega
      exact ⟨_, rfl, t0, _, _, .str "close", rfl, rfl, sqt (ht2), atI_nat (j := 0) rfl, rfl, _, rfl, iteND (kne (a := "close") (by decide +kernel)) ⟨_, rfl, t0, _, _, .str "close", rfl, rfl, sqt (ht2), atI_nat (j := 0) rfl, rfl, _, rfl, iteND (kne (a := "close") (by decide +kernel)) ⟨_, rfl, t0, _, _, .str "close", rfl, rfl, sqt (ht2), atI_nat (j := 0) rfl, rfl, _, rfl, iteND (kne (a := "close") (by decide +kernel)) ⟨_, rfl, t0, _, _, .str "close", rfl, rfl, sqt (ht2), atI_nat (j := 0) rfl, rfl, _, rfl, iteND (kne (a := "close") (by decide +kernel)) ⟨_, rfl, t0, _, _, .str "close", rfl, rfl, sqt (ht2), atI_nat (j := 0) rfl, rfl, _, rfl, iteND (kne (a := "close") (by decide +kernel)) (q false _ S2)⟩⟩⟩⟩⟩
end
end Fv
set_option Elab.async false
set_option linter.all false
set_option maxRecDepth 100000
set_option maxHeartbeats 4000000
/-! The line and the pattern that the law draws. -/
namespace Fv
open PySem PySem.Spec PyProof.Rows L2 _root_.TL
section
variable {P : Program} {w : World} {K : PySem.W.Frag} {mg : Str → Option Value} {base : Heap}
theorem bools_flat : ∀ bs : List Bool, (bs.map V.bl).all flatV = true
  | [] => rfl
  | _ :: d => bools_flat d
def sp_unbroken (K : PySem.W.Frag) : Sp := fun vs H Q _ => ∃ (la sa ua : Addr) (at_ : Int) (n : Nat) (lxs sxs uxs : List V) (line cs : List (List Int)) (Rs : List RK), vs = [.ref la, .ref sa, .int at_, .ref ua] ∧ H la = some (.lst lxs) ∧ Tups H lxs (cV line) ∧ LineOk n line ∧ line.length ≤ 50 ∧
  H sa = some (.lst sxs) ∧ Tups H sxs (cV cs) ∧ LineOk n cs ∧ cs.length ≤ 1000 ∧ 0 ≤ at_ ∧ at_ < (cs.length : Nat) ∧ H ua = some (.lst uxs) ∧ RTs H uxs Rs ∧ RulesOk n Rs ∧ ∀ ca H' c, Same H H' → H' ca = some (.tup (iV c)) → c ∈ cs → Q (.ref ca) H'
theorem ok__law_unbroken (T : Top K mg base) : DOk P w K mg base "_law_unbroken" 4 ["_law_line_here", "_law_some_here", "_law_at_here", "_law_rules_here"] (sp_unbroken K) := by
  have G__law_broken := ok__law_broken (P := P) (w := w) T
  obtain ⟨fd, F⟩ := T.D__law_unbroken
  refine ⟨fd, F.ok sc__law_unbroken (fun vs H Q E h => ?_) (fun cdv A outer s H vs Q E hr h => ?_), F.bindsN fun _ _ _ _ _ _ us hl => match us, hl with | [_, _, _, _], _ => rfl, F.kp, T.g__law_unbroken⟩
  · obtain ⟨la, sa, ua, at_, n, lxs, sxs, uxs, line, cs, Rs, rfl, _⟩ := h
    rfl
  · obtain ⟨la, sa, ua, at_, n, lxs, sxs, uxs, line, cs, Rs, rfl, hla, tl1, hlo, h50, hsa, ts, hco, h1000, ha0, ha1, hua, hU, hRu, q⟩ := h
    have ll : lxs.length = line.length := by rw [tl1.len]; exact List.length_map ..
    have ls : sxs.length = cs.length := by rw [ts.len]; exact List.length_map ..
    have lu := hU.len
    have h12 := hRu.few
-- slots: 0 _law_line_here 1 _law_some_here 2 _law_at_here 3 _law_rules_here 4 _law_k 5 _law_column 6 _law_longer 7 _law_ill 8 _law_rule_here
-- needs: _law_broken
    refine ⟨_, PSs.nox (pss_cons (ps_for PassesOwn.never rfl (pi_range1 (by rfl) T.b_range (pa_cons (pe_callB call_len (by rfl) T.b_len PySem.boot_len (pa_cons (pv 1) pa_nil)) pa_nil)) (pg_name (i := 4) sc__law_unbroken.nd rfl (by first | exact Or.inl rfl | exact Or.inr rfl))
        (pss_cons (ps_set (i := 5) sc__law_unbroken.nd rfl (by first | exact Or.inl rfl | exact Or.inr rfl) (pe_ix ix_list (pv 1) (pe_op op_mod (pe_op op_add (pv 2) (pv 4)) (pe_callB call_len (by rfl) T.b_len PySem.boot_len (pa_cons (pv 1) pa_nil))) (fun _ _ => rfl)))
        (pss_cons (ps_set (i := 6) sc__law_unbroken.nd rfl (by first | exact Or.inl rfl | exact Or.inr rfl) (pe_op op_cat (pv 0) (pe_lst (pa_cons (pv 5) pa_nil))))
        (pss_cons (ps_setLc (i := 7) (own := [("_law_rule_here", 8)]) (g := gName 8) (tt := tYes) rfl sc__law_unbroken.nd rfl rfl (sw_true rfl rfl rfl (by decide +kernel)) (pi_list (pv 3)) (blkOk_by (N := N__law_unbroken) (sc := defScope s__law_unbroken) (by decide +kernel)) (fun _ _ _ _ _ => pg_name (i := 8) sc__law_unbroken.nd rfl (Or.inl rfl)) (fun _ _ _ _ _ => pts_nil) (fun _ _ _ _ _ => (dcall G__law_broken (hr.mono (by decide)) (by rfl) (pa_cons (pv 8) (pa_cons (pv 6) (pa_cons (pe_callB (show CallR _ _ (fun xs H Q => ∃ x n, xs = [x] ∧ LenV K x H n ∧ Q (V.int ((n : Nat) : Int)) H) from call_len) (by rfl) T.b_len PySem.boot_len (pa_cons (pv 0) pa_nil)) pa_nil))))))
        (pss_one (ps_if (pt_cmpR op_notIn_seq pe_bl (pv 7) (by rfl))
          (pss_one (ps_ret (pv 5)))
          pss_nil))))))
      (pss_one (ps_ret (pe_ix ix_list (pv 1) (pv 2) (fun _ _ => rfl))))), ?_⟩
    refine ⟨_, rfl, _, _, rfl, .inl ⟨_, sql hsa, rfl⟩, ((sxs.length : Nat) : Int), rfl, by omega, by omega, for_range (lo := 0) (n := sxs.length) (fun i σ H' => ∃ (x4 x5 x6 x7 x8 : Option V), σ = [some (.ref la), some (.ref sa), some (.int at_), some (.ref ua), x4, x5, x6, x7, x8] ∧ Same H H')
      ⟨none, none, none, none, none, rfl, Same.refl _⟩ ?_ ?_⟩
    · rintro i σ H' hi ⟨x4, x5, x6, x7, x8, rfl, SI⟩
      have m1 : 0 ≤ (at_ + (0 + (i : Nat))) % (sxs.length : Nat) := Int.emod_nonneg _ (by omega)
      have m2 : (at_ + (0 + (i : Nat))) % (sxs.length : Nat) < (sxs.length : Nat) := Int.emod_lt_of_pos _ (by omega)
      obtain ⟨j, ej⟩ : ∃ j : Nat, (at_ + (0 + (i : Nat))) % (sxs.length : Nat) = (j : Nat) := ⟨((at_ + (0 + (i : Nat))) % (sxs.length : Nat)).toNat, by omega⟩
      obtain ⟨ca, c, gj, hcm, hca⟩ := line_at (K := K) (ts.mono SI.tk) (show j < cs.length by omega)
      refine ⟨_, rfl, _, rfl, _, rfl, _, _, rfl, rfl, _, rfl, _, _, rfl, .inl ⟨_, sql (SI _ _ hsa), rfl⟩, _, _, rfl, rfl, (by show 0 < ((sxs.length : Nat) : Int); omega), sa, _, _, .ref ca, rfl, rfl, sql (SI _ _ hsa), at_of ej gj, ?_⟩
      refine ⟨_, rfl, _, rfl, by show 1 ≤ sizeLine; decide, fun lp nlp => ?_⟩
      have SA := Same.new (o := .lst [.ref ca]) nlp
      refine ⟨la, lp, _, _, rfl, rfl, SA _ _ (SI _ _ hla), upd_same, sz (by show lxs.length + 1 ≤ 100000; omega), fun p2 np2 => ?_⟩
      have SB := SA.trans (Same.new (o := .lst (lxs ++ [.ref ca])) np2)
      have S1 := SI.trans SB
      have tl2 : Tups (upd (upd H' lp (.lst [.ref ca])) p2 (.lst (lxs ++ [.ref ca]))) (lxs ++ [.ref ca]) (cV (line ++ [c])) := by
        unfold cV
        rw [List.map_append]
        exact (tl1.mono S1.tk).snoc (SB _ _ hca)
      have hp2 : (upd (upd H' lp (.lst [.ref ca])) p2 (.lst (lxs ++ [.ref ca]))) p2 = some (.lst (lxs ++ [.ref ca])) := upd_same
      have hlo2 : LineOk n (line ++ [c]) := fun d hd => by
        rcases List.mem_append.mp hd with hd | hd
        · exact hlo d hd
        · rw [List.mem_singleton.mp hd]
          exact hco c hcm
      have ll2 : (line ++ [c]).length = line.length + 1 := by rw [List.length_append]; rfl
      refine ⟨_, rfl, ua, rfl, ⟨_, sql (S1 _ _ hua)⟩, fun D hD => lc_list (K := K) (a := ua) (xs := uxs) (fun j H2 => Same (upd (upd H' lp (.lst [.ref ca])) p2 (.lst (lxs ++ [.ref ca]))) H2 ∧ ∃ bs : List Bool, H2 D = some (.lst (bs.map V.bl)) ∧ bs.length = j)
        ⟨Same.new hD, [], upd_same, rfl⟩ (fun j H2 _ ⟨s, _⟩ => sql (s _ _ (S1 _ _ hua))) ?_ ?_⟩
      · rintro j2 v H2 hv ⟨SJ, bs, hy, hbs⟩
        have S2 := S1.trans SJ
        obtain ⟨R, hRi, hRt⟩ := (hU.fk (FK.of S2) hRu.ok).get hv
        have hj2 : j2 < uxs.length := (List.getElem?_eq_some_iff.mp hv).1
        refine ⟨rfl, _, rfl, _, rfl, _, rfl, _, _, rfl, .inl ⟨_, sql (S2 _ _ hla), rfl⟩, v, p2, R, n, line ++ [c], line.length, ?_, hRt, hRu.ok R (List.mem_of_getElem? hRi), ⟨_, sql (SJ _ _ hp2), tl2.mono SJ.tk⟩, hlo2, ll2.symm, by omega, fun b H3 S3 => ⟨_, S3 _ _ hy, szl (by rw [List.length_map]; omega), (SJ.trans S3).mut hD, bs ++ [b], ?_, ?_⟩⟩
        · rw [← ll]
          rfl
        · rw [upd_same, List.map_append]
          rfl
        · rw [List.length_append, hbs]
          rfl
      · rintro H2 ⟨SJ, bs, hy, hbs⟩
        have S2 := S1.trans SJ
        refine ⟨_, rfl, D, _, rfl, .inl (sql hy), rfl, bools_flat bs, _, rfl, ite2 (fun _ => ?_) (fun _ => ?_)⟩
        · exact ⟨_, rfl, q ca _ c S2 (SJ _ _ (SB _ _ hca)) hcm⟩
        · exact ⟨some (.int (0 + (i : Nat))), some (.ref ca), some (.ref p2), some (.ref D), x8, rfl, S2⟩
    · rintro σ H' ⟨x4, x5, x6, x7, x8, rfl, SI⟩
      obtain ⟨ca, c, gj, hcm, hca⟩ := line_at (K := K) (ts.mono SI.tk) (show at_.toNat < cs.length by omega)
      exact ⟨_, rfl, _, rfl, sa, _, _, .ref ca, rfl, rfl, sql (SI _ _ hsa), at_of (j := at_.toNat) (by omega) gj, q ca _ c SI hca hcm⟩
def sp_line (K : PySem.W.Frag) : Sp := fun vs H Q _ => ∃ (la ca ra ua : Addr) (ns : List Int) (rs : Rng) (uxs : List V) (Rs : List RK), vs = [.ref la, .ref ca, .ref ra, .ref ua] ∧ H la = some (.lst []) ∧ H ca = some (.lst (ns.map V.int)) ∧ ns.length ≤ 8 ∧ TL K H ra (rV rs) ∧ Fits rs Rs ∧ H ua = some (.lst uxs) ∧ RTs H uxs Rs ∧
  ∀ p H' lxs line, Same H H' → H' p = some (.lst lxs) → Tups H' lxs (cV line) → line.length ≤ 8 → LineOk rs.length line → Q (.ref p) H'
theorem ok__law_line (T : Top K mg base) : DOk P w K mg base "_law_line" 5 ["_law_line_here", "_law_cells_here", "_law_ranges_here", "_law_rules_here"] (sp_line K) := by
  have G__law_columns := ok__law_columns (P := P) (w := w) T
  have G__law_unbroken := ok__law_unbroken (P := P) (w := w) T
  obtain ⟨fd, F⟩ := T.D__law_line
  refine ⟨fd, F.ok sc__law_line (fun vs H Q E h => ?_) (fun cdv A outer s H vs Q E hr h => ?_), F.bindsN fun _ _ _ _ _ _ us hl => match us, hl with | [_, _, _, _], _ => rfl, F.kp, T.g__law_line⟩
  · obtain ⟨la, ca, ra, ua, ns, rs, uxs, Rs, rfl, _⟩ := h
    rfl
  · obtain ⟨la, ca, ra, ua, ns, rs, uxs, Rs, rfl, hla, hca, h8, hra, hf, hua, hU, q⟩ := h
    have hge : ∀ r ∈ rs, r.1 ≤ r.2 := fun r hr => (hf.r.fig r hr).2.2
    have hcc := cols_count hge
    have hP := prod_pos (wids_pos hge)
    have hsm := small_cols hf.small
    have hco : LineOk rs.length (cols rs) := fun c hc => cols_len hc
-- slots: 0 _law_line_here 1 _law_cells_here 2 _law_ranges_here 3 _law_rules_here 4 _law_some_here 5 _law_cell
-- needs: _law_columns _law_unbroken
    refine ⟨_, PSs.nox (pss_cons (ps_set (i := 4) sc__law_line.nd rfl (by first | exact Or.inl rfl | exact Or.inr rfl) (dcall G__law_columns (hr.mono (by decide)) (by rfl) (pa_cons (pv 2) pa_nil)))
      (pss_cons (ps_for PassesOwn.never rfl (pi_list (pv 1)) (pg_name (i := 5) sc__law_line.nd rfl (by first | exact Or.inl rfl | exact Or.inr rfl))
        (pss_one (ps_if (pt_cmpR op_eq (pe_op op_mod (pe_op op_fdiv (pv 5) pe_int) pe_int) pe_int (nomark _))
          (pss_one (ps_set (i := 0) sc__law_line.nd rfl (by first | exact Or.inl rfl | exact Or.inr rfl) (pe_op op_cat (pv 0) (pe_lst (pa_cons (pe_ix ix_list (pv 4) (pe_op op_mod (pv 5) (pe_callB call_len (by rfl) T.b_len PySem.boot_len (pa_cons (pv 4) pa_nil))) (fun _ _ => rfl)) pa_nil)))))
          (pss_one (ps_set (i := 0) sc__law_line.nd rfl (by first | exact Or.inl rfl | exact Or.inr rfl) (pe_op op_cat (pv 0) (pe_lst (pa_cons (dcall G__law_unbroken (hr.mono (by decide)) (by rfl) (pa_cons (pv 0) (pa_cons (pv 4) (pa_cons (pe_op op_mod (pv 5) (pe_callB call_len (by rfl) T.b_len PySem.boot_len (pa_cons (pv 4) pa_nil))) (pa_cons (pv 3) pa_nil))))) pa_nil))))))))
      (pss_one (ps_ret (pv 0))))), ?_⟩
    refine ⟨_, rfl, ra, rs, rfl, hra, hf.small, fun sp H1 N => ?_⟩
    obtain ⟨S1, nsp, sxs, hsp, tsp⟩ := N
    have ls : sxs.length = (cols rs).length := by rw [tsp.len]; exact List.length_map ..
    have lns : (ns.map V.int).length = ns.length := List.length_map ..
    refine ⟨_, rfl, ca, rfl, ⟨_, sql (S1 _ _ hca)⟩, for_list (K := K) (a := ca) (xs := ns.map V.int) (fun i σ H' => ∃ (p : Addr) (x5 : Option V) (lxs : List V) (line : List (List Int)), σ = [some (.ref p), some (.ref ca), some (.ref ra), some (.ref ua), some (.ref sp), x5] ∧ Same H1 H' ∧ H' p = some (.lst lxs) ∧ Tups H' lxs (cV line) ∧ line.length = i ∧ LineOk rs.length line)
      ⟨la, none, [], [], rfl, Same.refl _, S1 _ _ hla, .nil, rfl, fun c hc => nomatch hc⟩ (fun i σ H' _ ⟨_, _, _, _, _, s, _⟩ => sql (s _ _ (S1 _ _ hca))) ?_ ?_⟩
    · rintro i v σ H' hv ⟨p, x5, lxs, line, rfl, SI, hp, tp, hli, hlo⟩
      obtain ⟨x, hx, rfl⟩ := get_int hv
      have hi : i < ns.length := (List.getElem?_eq_some_iff.mp hx).1
      have ll : lxs.length = line.length := by rw [tp.len]; exact List.length_map ..
      have m1 : 0 ≤ x % (sxs.length : Nat) := Int.emod_nonneg _ (by omega)
      have m2 : x % (sxs.length : Nat) < (sxs.length : Nat) := Int.emod_lt_of_pos _ (by omega)
      have hs2 := SI _ _ hsp
      have ts2 := tsp.mono SI.tk
      have snoc : ∀ (cb : Addr) (c : List Int) (H2 : Hp), Same H' H2 → H2 cb = some (.tup (iV c)) → c ∈ cols rs → ∀ lp, H2 lp = none → ∀ p2, (upd H2 lp (.lst [.ref cb])) p2 = none → Tups (upd (upd H2 lp (.lst [.ref cb])) p2 (.lst (lxs ++ [.ref cb]))) (lxs ++ [.ref cb]) (cV (line ++ [c])) ∧ LineOk rs.length (line ++ [c]) ∧ (line ++ [c]).length = i + 1 ∧ Same H1 (upd (upd H2 lp (.lst [.ref cb])) p2 (.lst (lxs ++ [.ref cb]))) := by
        intro cb c H2 S2 hcb hcm lp nlp p2 np2
        have S3 := (Same.new (o := .lst [.ref cb]) nlp).trans (Same.new (o := .lst (lxs ++ [.ref cb])) np2)
        refine ⟨?_, fun d hd => ?_, by rw [List.length_append, hli]; rfl, SI.trans (S2.trans S3)⟩
        · unfold cV
          rw [List.map_append]
          exact (tp.mono (S2.trans S3).tk).snoc (S3 _ _ hcb)
        · rcases List.mem_append.mp hd with hd | hd
          · exact hlo d hd
          · rw [List.mem_singleton.mp hd]
            exact hco c hcm
      refine ⟨_, rfl, _, _, rfl, rfl, ⟨by decide, by decide⟩, _, _, rfl, rfl, lt0 (by decide), rfl, _, rfl, ite2 (fun _ => ?_) (fun _ => ?_)⟩
      · obtain ⟨j, ej⟩ : ∃ j : Nat, x % (sxs.length : Nat) = (j : Nat) := ⟨(x % (sxs.length : Nat)).toNat, by omega⟩
        obtain ⟨cb, c, gj, hcm, hcb⟩ := line_at (K := K) ts2 (show j < (cols rs).length by omega)
        refine ⟨_, rfl, _, rfl, _, rfl, _, rfl, _, _, rfl, .inl ⟨_, sql hs2, rfl⟩, _, _, rfl, rfl, (by show 0 < ((sxs.length : Nat) : Int); omega), sp, _, _, .ref cb, rfl, rfl, sql hs2, at_of ej gj, by show 1 ≤ sizeLine; decide, fun lp nlp => ?_⟩
        refine ⟨p, lp, _, _, rfl, rfl, (Same.new nlp) _ _ hp, upd_same, sz (by show lxs.length + 1 ≤ 100000; omega), fun p2 np2 => ?_⟩
        obtain ⟨g1, g2, g3, g4⟩ := snoc cb c H' (Same.refl _) hcb hcm lp nlp p2 np2
        exact ⟨p2, some (.int x), lxs ++ [.ref cb], line ++ [c], rfl, g4, upd_same, g1, g3, g2⟩
      · refine ⟨_, rfl, _, rfl, _, rfl, _, rfl, _, rfl, _, _, rfl, .inl ⟨_, sql hs2, rfl⟩, _, _, rfl, rfl, (by show 0 < ((sxs.length : Nat) : Int); omega), _, rfl, p, sp, ua, x % (sxs.length : Nat), rs.length, lxs, sxs, uxs, line, cols rs, Rs, rfl, hp, tp, hlo, by omega, hs2, ts2, hco, by omega, m1, by omega, SI _ _ (S1 _ _ hua), hU.fk (FK.of (S1.trans SI)) hf.u.ok, hf.u, fun cb H2 c S2 hcb hcm => ?_⟩
        refine ⟨by show 1 ≤ sizeLine; decide, fun lp nlp => ?_⟩
        refine ⟨p, lp, _, _, rfl, rfl, (Same.new nlp) _ _ (S2 _ _ hp), upd_same, sz (by show lxs.length + 1 ≤ 100000; omega), fun p2 np2 => ?_⟩
        obtain ⟨g1, g2, g3, g4⟩ := snoc cb c H2 S2 hcb hcm lp nlp p2 np2
        exact ⟨p2, some (.int x), lxs ++ [.ref cb], line ++ [c], rfl, g4, upd_same, g1, g3, g2⟩
    · rintro σ H' ⟨p, x5, lxs, line, rfl, SI, hp, tp, hli, hlo⟩
      exact ⟨_, rfl, q p H' lxs line (S1.trans SI) hp tp (by omega) hlo⟩
def sp_cells (K : PySem.W.Frag) : Sp := fun vs H Q _ => ∃ (sa : Addr) (sc : List Int) (st many : Nat), vs = [.ref sa, .int st, .int many] ∧ SqL K H sa (sc.map V.int) ∧ sc.length ≤ 1000 ∧ st ≤ 100 ∧ many ≤ 8 ∧ ∀ p H' ns, NewI H H' p ns → ns.length ≤ 8 → Q (.ref p) H'
theorem ok__law_cells (T : Top K mg base) : DOk P w K mg base "_law_cells" 2 ["_law_script", "_law_start", "_law_many"] (sp_cells K) := by
  have G__law_draws := ok__law_draws (P := P) (w := w) T
  have G__law_at := ok__law_at (P := P) (w := w) T
  obtain ⟨fd, F⟩ := T.D__law_cells
  refine ⟨fd, F.ok sc__law_cells (fun vs H Q E h => ?_) (fun cdv A outer s H vs Q E hr h => ?_), F.bindsN fun _ _ _ _ _ _ us hl => match us, hl with | [_, _, _], _ => rfl, F.kp, T.g__law_cells⟩
  · obtain ⟨sa, sc, st, many, rfl, _⟩ := h
    rfl
  · obtain ⟨sa, sc, st, many, rfl, hS, h1000, hst, hm, q⟩ := h
    have lsc : (sc.map V.int).length = sc.length := List.length_map ..
-- slots: 0 _law_script 1 _law_start 2 _law_many 3 _law_found 4 _law_k
-- needs: _law_draws _law_at
    refine ⟨_, PSs.nox (pss_cons (ps_set (i := 3) sc__law_cells.nd rfl (by first | exact Or.inl rfl | exact Or.inr rfl) (dcall G__law_draws (hr.mono (by decide)) (by rfl) (pa_cons (dcall G__law_at (hr.mono (by decide)) (by rfl) (pa_cons (pv 0) (pa_cons (pv 1) pa_nil))) (pa_cons (pv 2) pa_nil))))
      (pss_cons (ps_for PassesOwn.never rfl (pi_range1 (by rfl) T.b_range (pa_cons (pe_callB (call_min2 rfl) (by rfl) T.b_min (by decide +kernel) (pa_cons (pv 2) (pa_cons (pe_callB (call_max2 rfl) (by rfl) T.b_max (by decide +kernel) (pa_cons pe_int (pa_cons (pe_op op_sub (pe_op op_sub (pe_callB call_len (by rfl) T.b_len PySem.boot_len (pa_cons (pv 0) pa_nil)) (pv 1)) pe_int) pa_nil))) pa_nil))) pa_nil)) (pg_name (i := 4) sc__law_cells.nd rfl (by first | exact Or.inl rfl | exact Or.inr rfl))
        (pss_one (ps_asg (pe_ix ix_list (pv 0) (pe_op op_add (pe_op op_add (pv 1) pe_int) (pv 4)) (fun _ _ => rfl)) (pg_sub (pv 3) (pv 4) set_list))))
      (pss_one (ps_ret (pv 3))))), ?_⟩
    refine ⟨_, rfl, _, rfl, sa, sc, st, rfl, hS, _, rfl, atD sc st, many, rfl, by omega, fun p H1 ns N l1 d1 => ?_⟩
    have S1 := N.same
    have l1 : ns.length = many := l1
    refine ⟨_, rfl, _, rfl, _, _, rfl, .inl ⟨_, S1.seq hS, rfl⟩, _, rfl, _, _, rfl, rfl, _, _, rfl, rfl, _, _, rfl, _, _, rfl, ?_⟩
    rw [lsc]
    have hJ : ∀ J : Int, J = (if (if ((sc.length : Nat) : Int) - (st : Nat) - 1 > 0 then ((sc.length : Nat) : Int) - (st : Nat) - 1 else 0) < (many : Nat) then (if ((sc.length : Nat) : Int) - (st : Nat) - 1 > 0 then ((sc.length : Nat) : Int) - (st : Nat) - 1 else 0) else (many : Nat)) → 0 ≤ J ∧ J ≤ (many : Nat) ∧ (0 < J → J ≤ ((sc.length : Nat) : Int) - (st : Nat) - 1) := by
      intro J e
      rw [e]
      split <;> split <;> omega
    obtain ⟨j0, j1, j2⟩ := hJ _ rfl
    refine ⟨_, rfl, by omega, by omega, for_range (lo := 0) (n := Int.toNat _) (fun i σ H' => ∃ (x4 : Option V) (ns : List Int), σ = [some (.ref sa), some (.int (st : Nat)), some (.int (many : Nat)), some (.ref p), x4] ∧ Same H H' ∧ H' p = some (.lst (ns.map V.int)) ∧ ns.length = many)
      ⟨none, ns, rfl, S1, N.at_, l1⟩ ?_ ?_⟩
    · rintro i σ H' hi ⟨x4, ms, rfl, SI, hp, hms⟩
      have hlt : st + 1 + i < sc.length := by omega
      have gs : (sc.map V.int)[st + 1 + i]? = some (.int (sc.getD (st + 1 + i) 0)) := int_get (by rw [List.getD_eq_getElem?_getD, List.getElem?_eq_getElem hlt]; rfl)
      have hi2 : i < ms.length := by omega
      refine ⟨_, rfl, _, rfl, _, _, rfl, rfl, _, rfl, _, _, rfl, rfl, sa, _, _, _, rfl, rfl, SI.seq hS, at_of (j := st + 1 + i) (by omega) gs, _, rfl, _, rfl, p, _, _, i, rfl, rfl, hp, ?_, some (.int (0 + (i : Nat))), ms.set i (sc.getD (st + 1 + i) 0), rfl, SI.mut N.new, ?_, ?_⟩
      · unfold ixN
        rw [List.length_map, if_pos (by omega), if_pos (by omega)]
        congr 1
        omega
      · rw [upd_same, List.map_set]
      · rw [List.length_set]
        exact hms
    · rintro σ H' ⟨x4, ms, rfl, SI, hp, hms⟩
      exact ⟨_, rfl, q p H' ms ⟨SI, N.new, hp⟩ (by omega)⟩
def sp_pattern (K : PySem.W.Frag) : Sp := fun vs H Q _ => ∃ (la : Addr) (c : Int) (n : Nat) (line : List (List Int)), vs = [.ref la, .int c] ∧ TL K H la (cV line) ∧ LineOk n line ∧ n ≤ 4 ∧ line.length ≤ 8 ∧ ∀ p H' pat, NewT H H' p (pV pat) → pat.length ≤ 8 → (∀ g ∈ pat, g.length = n) → Q (.ref p) H'
theorem ok__law_pattern (T : Top K mg base) : DOk P w K mg base "_law_pattern" 2 ["_law_line_here", "_law_cell"] (sp_pattern K) := by
  have G__law_draws := ok__law_draws (P := P) (w := w) T
  obtain ⟨fd, F⟩ := T.D__law_pattern
  refine ⟨fd, F.ok sc__law_pattern (fun vs H Q E h => ?_) (fun cdv A outer s H vs Q E hr h => ?_), F.bindsN fun _ _ _ _ _ _ us hl => match us, hl with | [_, _], _ => rfl, F.kp, T.g__law_pattern⟩
  · obtain ⟨la, c, n, line, rfl, _⟩ := h
    rfl
  · obtain ⟨la, c, n, line, rfl, ⟨xs, hla, tx⟩, hlo, hn, h8, q⟩ := h
    have lx : xs.length = line.length := by rw [tx.len]; exact List.length_map ..
-- slots: 0 _law_line_here 1 _law_cell 2 _law_ways 3 _law_found 4 _law_k 5 _law_column 6 _law_j
-- needs: _law_draws
    refine ⟨_, PSs.nox (pss_cons (ps_set (i := 2) sc__law_pattern.nd rfl (by first | exact Or.inl rfl | exact Or.inr rfl) (dcall G__law_draws (hr.mono (by decide)) (by rfl) (pa_cons (pe_op op_fdiv (pv 1) pe_int) (pa_cons (pe_op op_mul pe_int (pe_callB call_len (by rfl) T.b_len PySem.boot_len (pa_cons (pv 0) pa_nil))) pa_nil))))
      (pss_cons (ps_set (i := 3) sc__law_pattern.nd rfl (by first | exact Or.inl rfl | exact Or.inr rfl) (pe_lst pa_nil))
      (pss_cons (ps_for PassesOwn.never rfl (pi_range1 (by rfl) T.b_range (pa_cons (pe_callB call_len (by rfl) T.b_len PySem.boot_len (pa_cons (pv 0) pa_nil)) pa_nil)) (pg_name (i := 4) sc__law_pattern.nd rfl (by first | exact Or.inl rfl | exact Or.inr rfl))
        (pss_cons (ps_set (i := 5) sc__law_pattern.nd rfl (by first | exact Or.inl rfl | exact Or.inr rfl) (pe_callTy call_list_of (by rfl) T.b_list (by decide +kernel) (pa_cons (pe_ix ix_list (pv 0) (pv 4) (fun _ _ => rfl)) pa_nil)))
        (pss_cons (ps_for PassesOwn.never rfl (pi_range1 (by rfl) T.b_range (pa_cons (pe_callB call_len (by rfl) T.b_len PySem.boot_len (pa_cons (pv 5) pa_nil)) pa_nil)) (pg_name (i := 6) sc__law_pattern.nd rfl (by first | exact Or.inl rfl | exact Or.inr rfl))
          (pss_one (ps_if (pt_cmpR op_lt (pe_op op_mod (pe_ix ix_list (pv 2) (pe_op op_add (pe_op op_mul pe_int (pv 4)) (pv 6)) (fun _ _ => rfl)) pe_int) (pe_ix ix_list (pe_lst (pa_cons pe_int (pa_cons pe_int (pa_cons pe_int (pa_cons pe_int (pa_cons pe_int pa_nil)))))) (pe_op op_mod (pv 1) pe_int) (fun _ _ => rfl)) (nomark _))
            (pss_one (ps_asg pe_non (pg_sub (pv 5) (pv 6) set_list)))
            pss_nil)))
        (pss_one (ps_expr (pe_bm PySem.F.plainAttrs_list PySem.F.slot_list_append PySem.F.type_list_append mt_append (pv 3) (pa_cons (pe_callTy call_tuple_of (by rfl) T.b_tuple (by decide +kernel) (pa_cons (pv 5) pa_nil)) pa_nil)))))))
      (pss_one (ps_ret (pv 3)))))), ?_⟩
    refine ⟨_, rfl, _, _, rfl, rfl, ⟨by decide, by decide⟩, _, rfl, _, _, rfl, .inl ⟨_, hla, rfl⟩, _, _, rfl, rfl, .inl ⟨by decide, by decide⟩, c / 5, 4 * xs.length, congrArg (fun z => [V.int (c / 5), V.int z]) (by show 4 * ((xs.length : Nat) : Int) = ((4 * xs.length : Nat) : Int); omega), by omega, fun wa H1 ws N l1 d1 => ?_⟩
    have S1 := N.same
    have l1 : ws.length = 4 * xs.length := l1
    refine ⟨Nat.zero_le _, fun p np => ?_⟩
    have S2 := S1.trans (Same.new (o := .lst []) np)
    have npH : H p = none := S1.free np
    have hwa2 := (Same.new (o := .lst []) np) _ _ N.at_
    refine ⟨_, rfl, _, _, rfl, .inl ⟨_, S2.seq hla, rfl⟩, ((xs.length : Nat) : Int), rfl, by omega, by omega, for_range (lo := 0) (n := xs.length) (fun i σ H' => ∃ (x4 x5 x6 : Option V) (pxs : List V) (pat : Pat), σ = [some (.ref la), some (.int c), some (.ref wa), some (.ref p), x4, x5, x6] ∧ Same H H' ∧ H' wa = some (.lst (ws.map V.int)) ∧ H' p = some (.lst pxs) ∧ Tups H' pxs (pV pat) ∧ pat.length = i ∧ ∀ g ∈ pat, g.length = n)
      ⟨none, none, none, [], [], rfl, S2, hwa2, upd_same, .nil, rfl, fun g hg => nomatch hg⟩ ?_ ?_⟩
    · rintro i σ H' hi ⟨x4, x5, x6, pxs, pat, rfl, SI, hwa, hp, tp, hpl, hpg⟩
      obtain ⟨ca, col, gi, hcm, hca⟩ := line_at (K := K) (tx.mono SI.tk) (show i < line.length by omega)
      have hcl := hlo col hcm
      have ei : (0 : Int) + (i : Nat) = (i : Nat) := by omega
      refine ⟨_, rfl, _, rfl, la, _, _, .ref ca, rfl, rfl, SI.seq hla, at_of ei gi, ca, _, rfl, .inr (sqt hca), fun cl ncl => ?_⟩
      have S3 := Same.new (o := .lst (iV col)) ncl
      have hne : p ≠ cl := ne_of_none hp ncl
      have lcol : (iV col).length = n := by
        show (col.map V.int).length = n
        rw [List.length_map, hcl]
      refine ⟨_, rfl, _, _, rfl, .inl ⟨_, sql upd_same, rfl⟩, (((iV col).length : Nat) : Int), rfl, by omega, by omega, for_range (lo := 0) (n := (iV col).length) (fun j σ H2 => ∃ (y6 : Option V) (g : List (Option Int)), σ = [some (.ref la), some (.int c), some (.ref wa), some (.ref p), some (.int (0 + (i : Nat))), some (.ref cl), y6] ∧ Same H' H2 ∧ H2 cl = some (.lst (gV g)) ∧ g.length = n)
        ⟨x6, col.map some, rfl, S3, by rw [upd_same]; unfold gV iV; rw [List.map_map]; rfl, by rw [List.length_map, hcl]⟩ ?_ ?_⟩
      · rintro j σ H2 hj ⟨y6, g, rfl, SJ, hcl2, hg⟩
        have hlt : 4 * i + j < ws.length := by omega
        have gw : (ws.map V.int)[4 * i + j]? = some (.int (ws.getD (4 * i + j) 0)) := int_get (by rw [List.getD_eq_getElem?_getD, List.getElem?_eq_getElem hlt]; rfl)
        obtain ⟨y, hym, hya⟩ := at_in (xs := [8, 8, 6, 4, 1]) (i := c % 5) (by omega) (by show _ < ((5 : Nat) : Int); omega)
        refine ⟨_, rfl, _, rfl, _, _, rfl, rfl, .inl ⟨by decide, by decide⟩, _, rfl, _, _, rfl, rfl, wa, _, _, _, rfl, rfl, sql (SJ _ _ hwa), at_of (j := 4 * i + j) (by omega) gw, _, _, rfl, rfl, lt0 (by decide), by show 5 ≤ sizeLine; decide, fun lp nlp => ?_⟩
        have S4 := Same.new (o := .lst [.int 8, .int 8, .int 6, .int 4, .int 1]) nlp
        refine ⟨_, rfl, _, _, rfl, rfl, lt0 (by decide), lp, _, _, .int y, rfl, rfl, sql upd_same, hya, _, _, rfl, rfl, _, rfl, ite2 (fun _ => ?_) (fun _ => ?_)⟩
        · refine ⟨_, rfl, _, rfl, cl, _, _, j, rfl, rfl, S4 _ _ hcl2, ?_, some (.int (0 + (j : Nat))), g.set j none, rfl, (SJ.trans S4).mut ncl, ?_, ?_⟩
          · unfold ixN gV
            rw [List.length_map, if_pos (by omega), if_pos (by omega)]
            congr 1
            omega
          · rw [upd_same]
            unfold gV
            rw [List.map_set]
            rfl
          · rw [List.length_set]
            exact hg
        · exact ⟨some (.int (0 + (j : Nat))), g, rfl, SJ.trans S4, S4 _ _ hcl2, hg⟩
      · rintro σ H2 ⟨y6, g, rfl, SJ, hcl2, hg⟩
        have hp2 := SJ _ _ hp
        refine ⟨_, rfl, .inl ⟨rfl, _, sql hp2⟩, _, rfl, cl, _, rfl, .inl ⟨sql hcl2, fun t nt => ?_⟩⟩
        have S5 := Same.new (o := .tup (gV g)) nt
        have hp3 := S5 _ _ hp2
        have lp2 : pxs.length = pat.length := by rw [tp.len]; exact List.length_map ..
        refine ⟨p, pxs, .ref t, rfl, rfl, hp3, szl (by omega), some (.int (0 + (i : Nat))), some (.ref cl), y6, pxs ++ [.ref t], pat ++ [g], rfl, (SI.trans (SJ.trans S5)).mut npH, ?_, upd_same, ?_, ?_, ?_⟩
        · have hnw : wa ≠ p := ne_of_none N.at_ np
          rw [upd_ne hnw]
          exact S5 _ _ (SJ _ _ hwa)
        · unfold pV
          rw [List.map_append]
          exact ((tp.mono (SJ.trans S5).tk).mono (TK.lst hp3)).snoc (TK.lst hp3 _ _ upd_same)
        · rw [List.length_append, hpl]
          rfl
        · intro g2 hg2
          rcases List.mem_append.mp hg2 with h | h
          · exact hpg g2 h
          · rw [List.mem_singleton.mp h]
            exact hg
    · rintro σ H' ⟨x4, x5, x6, pxs, pat, rfl, SI, hwa, hp, tp, hpl, hpg⟩
      exact ⟨_, rfl, q p H' pat ⟨SI, npH, pxs, hp, tp⟩ (by omega) hpg⟩
end
end Fv
set_option Elab.async false
set_option linter.all false
set_option maxRecDepth 100000
set_option maxHeartbeats 4000000
/-! The law. -/
namespace Fv
open PySem PySem.Spec PyProof.Rows L2 _root_.TL
theorem lay_all : ∀ {ds : List PyData}, (∀ d ∈ ds, d.canLay0 = true ∧ d.depth ≤ 5) → PyData.canLayAll0 ds = true ∧ PyData.depthAll ds ≤ 5
  | [], _ => ⟨rfl, Nat.zero_le _⟩
  | d :: ds, h => by
    obtain ⟨h1, h2⟩ := h d (List.mem_cons_self ..)
    obtain ⟨h3, h4⟩ := lay_all (ds := ds) fun e he => h e (List.mem_cons_of_mem _ he)
    refine ⟨?_, ?_⟩
    · rw [PyData.canLayAll0, h1, h3]
      rfl
    · rw [PyData.depthAll]
      omega
theorem lay_lists {ds : List PyData} (h : ∀ d ∈ ds, d.canLay0 = true ∧ d.depth ≤ 5) : SeqAt.shaped (.list ds) = true := by
  obtain ⟨h1, h2⟩ := lay_all h
  simp [SeqAt.shaped, PyData.canLay0, PyData.depth, h1]
  omega
def oD : Option Int → PyData
  | none => .none
  | some i => .int i
def patD (pat : Pat) : PyData := .list (pat.map fun g => .tuple (g.map oD))
def rowsD (rows : List (List Int)) : PyData := .list (rows.map fun r => .list (r.map .int))
theorem lay_o : ∀ g : List (Option Int), PyData.canLayAll0 (g.map oD) = true ∧ PyData.depthAll (g.map oD) = 0
  | [] => ⟨rfl, rfl⟩
  | o :: g => by
    obtain ⟨h1, h2⟩ := lay_o g
    cases o with
    | none => simp [PyData.canLayAll0, PyData.canLay0, PyData.depthAll, PyData.depth, oD, h1, h2]
    | some i => simp [PyData.canLayAll0, PyData.canLay0, PyData.depthAll, PyData.depth, oD, h1, h2]
theorem lay_i : ∀ r : List Int, PyData.canLayAll0 (r.map .int) = true ∧ PyData.depthAll (r.map .int) = 0
  | [] => ⟨rfl, rfl⟩
  | i :: r => by
    obtain ⟨h1, h2⟩ := lay_i r
    simp [PyData.canLayAll0, PyData.canLay0, PyData.depthAll, PyData.depth, h1, h2]
theorem shaped_pat (pat : Pat) : SeqAt.shaped (patD pat) = true := lay_lists fun d hd => by
  obtain ⟨g, _, rfl⟩ := List.mem_map.mp hd
  obtain ⟨h1, h2⟩ := lay_o g
  simp [PyData.canLay0, PyData.depth, h1, h2]
theorem shaped_rows (rows : List (List Int)) : SeqAt.shaped (rowsD rows) = true := lay_lists fun d hd => by
  obtain ⟨g, _, rfl⟩ := List.mem_map.mp hd
  obtain ⟨h1, h2⟩ := lay_i g
  simp [PyData.canLay0, PyData.depth, h1, h2]
theorem eqv_self {d : PyData} (h : SeqAt.shaped d = true) : PyData.eqv d d = true := SeqAt.eqv_refl d (SeqAt.canLay_of_shaped h)
theorem dp_o {K : PySem.W.Frag} {H : Hp} : ∀ g : List (Option Int), DpAll K H (gV g) (g.map oD)
  | [] => .nil
  | none :: g => .cons .non (dp_o g)
  | some i :: g => .cons (.int i) (dp_o g)
theorem dp_i {K : PySem.W.Frag} {H : Hp} : ∀ r : List Int, DpAll K H (r.map V.int) (r.map .int)
  | [] => .nil
  | i :: r => .cons (.int i) (dp_i r)
theorem dp_pat {K : PySem.W.Frag} {H : Hp} : ∀ {xs : List V} {pat : Pat}, Tups H xs (pV pat) → DpAll K H xs (pat.map fun g => .tuple (g.map oD))
  | _, [], .nil => .nil
  | _, g :: pat, .cons ⟨a, e, q⟩ t => by
    subst e
    exact .cons (.tup (sqt q) (dp_o g)) (dp_pat (pat := pat) t)
theorem dp_rows {K : PySem.W.Frag} {H : Hp} : ∀ {as : List Addr} {rows : List (List Int)}, Rows H as rows → DpAll K H (as.map V.ref) (rows.map fun r => .list (r.map .int))
  | _, _, .nil => .nil
  | _, _, .cons q t => .cons (.lst (sql q) (dp_i _)) (dp_rows t)
theorem PaperAt.r {H H' : Hp} {p : Addr} {rows : List (List Int)} (h : PaperAt H H' p rows) : PaperR H' p rows := by
  obtain ⟨as, e, _, r, _⟩ := h.at_
  exact ⟨as, e, r⟩
theorem PaperR.dp {K : PySem.W.Frag} {H : Hp} {p : Addr} {rows : List (List Int)} (h : PaperR H p rows) : Dp K H (.ref p) (rowsD rows) := by
  obtain ⟨as, e, r⟩ := h
  exact .lst (sql e) (dp_rows r)
section
variable {P : Program} {w : World} {K : PySem.W.Frag} {mg : Str → Option Value} {base : Heap}
def sp_law (K : PySem.W.Frag) : Sp := fun vs H Q _ => ∃ (a : Addr) (ns : List Int), vs = [.ref a] ∧ SqL K H a (ns.map V.int) ∧ ns.length ≤ 63 ∧ ∀ H', Q (.bl true) H'
theorem ok_law (T : Top K mg base) {fd : FuncData} (F : FunD K d_law.name d_law.qual d_law.params d_law.body d_law.scope (d_law.dvs K) (d_law.kws K) (He.fAd K d_law.at_) fd) : FnOk P w K mg base CX0 8 (He.fAd K d_law.at_) fd ["_law_script"] (sp_law K) := by
  have G__law_drawn := ok__law_drawn (P := P) (w := w) T
  have G__law_line := ok__law_line (P := P) (w := w) T
  have G__law_cells := ok__law_cells (P := P) (w := w) T
  have G__law_at := ok__law_at (P := P) (w := w) T
  have G__law_pattern := ok__law_pattern (P := P) (w := w) T
  have G_read := ok_read (P := P) (w := w) T
  have G__law_text := ok__law_text (P := P) (w := w) T
  have G_counts_paper := ok_counts_paper (P := P) (w := w) T
  have G__law_walked := ok__law_walked (P := P) (w := w) T
  have G_counted := ok_counted (P := P) (w := w) T
  have G__law_whole := ok__law_whole (P := P) (w := w) T
  have M_Machine := mk_Machine (P := P) (w := w) T
  have G_Machine_size := ok_M_size (P := P) (w := w) T
  refine F.ok sc_law (fun vs H Q E h => ?_) (fun cdv A outer s H vs Q E hr h => ?_)
  · obtain ⟨a, ns, rfl, _⟩ := h
    rfl
  · obtain ⟨sa, ns, rfl, hS, h63, q⟩ := h
-- slots: 0 _law_script 1 _law_line_here 2 _law_pattern_here 3 _law_machine 4 _law_handed 5 _law_paper 6 _law_again 7 _law_found 8 _law_ranges_here 9 _law_rules_here
-- needs: _law_drawn _law_line _law_cells _law_at _law_pattern mk_Machine read _law_text counts_paper _law_walked counted _law_whole Machine_size
    refine ⟨_, PSs.nox (pss_cons (ps_asg (dcall G__law_drawn (hr.mono (by decide)) (by rfl) (pa_cons (pv 0) (pa_cons pe_int pa_nil))) (pg_tup rfl (pgs_cons (pg_name (i := 8) sc_law.nd rfl (by first | exact Or.inl rfl | exact Or.inr rfl)) (pgs_cons (pg_name (i := 9) sc_law.nd rfl (by first | exact Or.inl rfl | exact Or.inr rfl)) pgs_nil))))
      (pss_cons (ps_set (i := 1) sc_law.nd rfl (by first | exact Or.inl rfl | exact Or.inr rfl) (dcall G__law_line (hr.mono (by decide)) (by rfl) (pa_cons (pe_lst pa_nil) (pa_cons (dcall G__law_cells (hr.mono (by decide)) (by rfl) (pa_cons (pv 0) (pa_cons pe_int (pa_cons (pe_op op_mod (dcall G__law_at (hr.mono (by decide)) (by rfl) (pa_cons (pv 0) (pa_cons pe_int pa_nil))) pe_int) pa_nil)))) (pa_cons (pv 8) (pa_cons (pv 9) pa_nil))))))
      (pss_cons (ps_set (i := 2) sc_law.nd rfl (by first | exact Or.inl rfl | exact Or.inr rfl) (dcall G__law_pattern (hr.mono (by decide)) (by rfl) (pa_cons (pv 1) (pa_cons (dcall G__law_at (hr.mono (by decide)) (by rfl) (pa_cons (pv 0) (pa_cons pe_int pa_nil))) pa_nil))))
      (pss_cons (ps_set (i := 3) sc_law.nd rfl (by first | exact Or.inl rfl | exact Or.inr rfl) (kmake M_Machine (hr.mono (by decide)) (by rfl) (pa_cons (dcall G_read (hr.mono (by decide)) (by rfl) (pa_cons (dcall G__law_text (hr.mono (by decide)) (by rfl) (pa_cons (pv 8) (pa_cons (pv 9) pa_nil))) pa_nil)) pa_nil)))
      (pss_cons (ps_set (i := 4) sc_law.nd rfl (by first | exact Or.inl rfl | exact Or.inr rfl) (pe_callTy call_list_of (by rfl) T.b_list (by decide +kernel) (pa_cons (pv 2) pa_nil)))
      (pss_cons (ps_set (i := 5) sc_law.nd rfl (by first | exact Or.inl rfl | exact Or.inr rfl) (dcall G_counts_paper (hr.mono (by decide)) (by rfl) (pa_cons (pv 3) (pa_cons (pv 4) pa_nil))))
      (pss_cons (ps_if (pt_not (pt_val (dcall G__law_walked (hr.mono (by decide)) (by rfl) (pa_cons (pv 3) (pa_cons (pv 8) (pa_cons (pv 2) (pa_cons (pv 5) pa_nil)))))))
        (pss_one (ps_ret pe_bl))
        pss_nil)
      (pss_cons (ps_set (i := 6) sc_law.nd rfl (by first | exact Or.inl rfl | exact Or.inr rfl) (dcall G_counts_paper (hr.mono (by decide)) (by rfl) (pa_cons (pv 3) (pa_cons (pv 4) pa_nil))))
      (pss_cons (ps_set (i := 7) sc_law.nd rfl (by first | exact Or.inl rfl | exact Or.inr rfl) (dcall G_counted (hr.mono (by decide)) (by rfl) (pa_cons (pv 3) (pa_cons (pv 4) pa_nil))))
      (pss_cons (ps_expr (pe_bm PySem.F.plainAttrs_list PySem.F.slot_list_append PySem.F.type_list_append mt_append (pe_ix ix_list (pv 6) pe_int (fun _ _ => rfl)) (pa_cons pe_int pa_nil)))
      (pss_cons (ps_if (PW.pt (pw_and (pt_cmpR op_gt (pe_callB call_len (by rfl) T.b_len PySem.boot_len (pa_cons (pv 2) pa_nil)) pe_int (nomark _)) (pw_and1 (pt_cmpR op_ne (pe_callB call_len (by rfl) T.b_len PySem.boot_len (pa_cons (pe_ix ix_list (pv 6) pe_int (fun _ _ => rfl)) pa_nil)) (mcall0 G_Machine_size (hr.mono (by decide)) (pv 3)) (nomark _)))))
        (pss_one (ps_ret pe_bl))
        pss_nil)
      (pss_cons (ps_expr (pe_bm PySem.F.plainAttrs_list PySem.F.slot_list_append PySem.F.type_list_append mt_append (pv 6) (pa_cons pe_int pa_nil)))
      (pss_cons (ps_if (PW.pt (pw_or (pt_not (pt_val (dcall G__law_walked (hr.mono (by decide)) (by rfl) (pa_cons (pv 3) (pa_cons (pv 8) (pa_cons (pv 2) (pa_cons (pv 5) pa_nil))))))) (pw_or1 (pt_cmpR (op_neD hr.units) (pv 4) (pv 2) (nomark _)))))
        (pss_one (ps_ret pe_bl))
        pss_nil)
      (pss_one (ps_ret (pe_and (dcall G__law_whole (hr.mono (by decide)) (by rfl) (pa_cons (pv 7) pa_nil)) (pe_and (pe_cmpR op_eq (pv 7) (pe_ix ix_list (pe_ix ix_list (pv 5) pe_int (fun _ _ => rfl)) pe_int (fun _ _ => rfl)) (nomark _)) (pe_one (pe_cmpR (op_eqD hr.units) (dcall G_counts_paper (hr.mono (by decide)) (by rfl) (pa_cons (pv 3) (pa_cons (pv 4) pa_nil))) (pv 5) (nomark _)))))))))))))))))))), ?_⟩
    refine ⟨_, rfl, sa, ns, rfl, hS, fun t H1 ra ua rs xs Rs S1 ht hra hf hua hU => ?_⟩
    have hfew := hf.r.few
    have hsm := hf.small
    refine ⟨t, _, rfl, sqt ht, rfl, _, _, rfl, _, _, rfl, rfl, ?_⟩
    refine ⟨Nat.zero_le _, fun l0 nl0 => ?_⟩
    have S2 := S1.trans (Same.new (o := .lst []) nl0)
    have S12 : Same H1 (upd H1 l0 (.lst [])) := Same.new nl0
    obtain ⟨many, em⟩ : ∃ many : Nat, atD ns 8 % 9 = (many : Nat) := ⟨(atD ns 8 % 9).toNat, by omega⟩
    refine ⟨_, rfl, _, rfl, sa, ns, 8, rfl, S2.seq hS, _, _, rfl, rfl, lt0 (by decide), sa, ns, 10, many, congrArg (fun z => [V.ref sa, V.int 10, V.int z]) em, S2.seq hS, by omega, by decide, by omega, fun pc H2 cs N2 hcs => ?_⟩
    have S13 := S12.trans N2.same
    refine ⟨_, rfl, _, rfl, l0, pc, ra, ua, cs, rs, xs, Rs, rfl, N2.same _ _ upd_same, N2.at_, hcs, hra.mono S13, hf, S13 _ _ hua, hU.fk (FK.of S13) hf.u.ok, fun pl H3 lxs line S3 hpl tl3 hl8 hlo => ?_⟩
    have S14 := S13.trans S3
    refine ⟨_, rfl, _, rfl, sa, ns, 9, rfl, (S1.trans S14).seq hS, pl, atD ns 9, rs.length, line, rfl, ⟨lxs, sql hpl, tl3⟩, hlo, hfew, hl8, fun pp H4 pat N4 hp8 hpg => ?_⟩
    obtain ⟨S4, npp, pxs, hpp, tpp⟩ := N4
    have S15 := S14.trans S4
    have hgle : ∀ g ∈ pat, g.length ≤ rs.length := fun g hg => Nat.le_of_eq (hpg g hg)
    have lpx : pxs.length = pat.length := by rw [tpp.len]; exact List.length_map ..
    -- the machine
    refine ⟨_, rfl, _, rfl, ra, ua, rs, xs, Rs, rfl, hra.mono S15, hf.r, S15 _ _ hua, hU.fk (FK.of S15) hf.u.ok, hf.u, fun H5 S5 => ⟨rs, Rs, rfl, hf.r, hf.u, hf.w, fun sc H6 S6 hSc => fun mo dx hmo hdx hne => ?_⟩⟩
    have S67 : Same H6 (upd (upd H6 dx (.own mo)) mo (.ins (He.ga K "Machine") dx [])) := made_same hmo hdx fun b hb => rfl
    refine ⟨H6, mo, dx, sc, rs, Rs, rfl, hmo, hSc, hf, S67, upd_same, fun ways good H7 MO S7 M => ⟨rfl, ?_⟩⟩
    have S47 : Same H4 H7 := S5.trans (S6.trans S7)
    have fewW := MO.few
    have posW := MO.pos
    -- handed = list(pattern)
    refine ⟨_, rfl, pp, pxs, rfl, .inl (sql (S47 _ _ hpp)), fun hd nhd => ?_⟩
    have S8 : Same H7 (upd H7 hd (.lst pxs)) := Same.new nhd
    have S48 := S47.trans S8
    -- paper
    refine ⟨_, rfl, _, rfl, mo, rs, ways, good, hd, pat, rfl, M.mono S8, MO, hsm, by omega, ⟨pxs, sql upd_same, tpp.mono S48.tk⟩, by omega, hgle, fun p H9 PA => ?_⟩
    have S79 := S8.trans PA.same
    have S49 := S47.trans S79
    have hhd9 := PA.same _ _ (show upd H7 hd (.lst pxs) hd = some (.lst pxs) from upd_same)
    have Tra9 := hra.mono (S15.trans S49)
    have hpp9 := S49 _ _ hpp
    have tpp9 := tpp.mono S49.tk
    refine ⟨_, rfl, _, rfl, _, rfl, _, rfl, mo, rs, ways, good, ra, pp, p, pat, rfl, M.mono S79, MO, hsm, by omega, Tra9, ⟨pxs, sql hpp9, tpp9⟩, by omega, hgle, PA.r, fun H10 S10 => ⟨true, rfl, iteF ?_⟩⟩
    have M10 := M.mono (S79.trans S10)
    have hhd10 := S10 _ _ hhd9
    have hpp10 := S10 _ _ hpp9
    have tpp10 := tpp9.mono S10.tk
    have Tra10 := Tra9.mono S10
    have PR10 := PA.r.mono S10
    -- again
    refine ⟨_, rfl, _, rfl, mo, rs, ways, good, hd, pat, rfl, M10, MO, hsm, by omega, ⟨pxs, sql hhd10, tpp10⟩, by omega, hgle, fun p2 H11 PA2 => ?_⟩
    have S11 := PA2.same
    refine ⟨_, rfl, _, rfl, mo, rs, ways, good, hd, pat, rfl, M10.mono S11, MO, hsm, by omega, ⟨pxs, sql (S11 _ _ hhd10), tpp10.mono S11.tk⟩, by omega, hgle, fun H12 S12' => ?_⟩
    have S1012 := S11.trans S12'
    obtain ⟨as2, hp2, hnd2, hr2, hfr2⟩ := PA2.at_
    have hp2' := S12' _ _ hp2
    obtain ⟨hdr, tlr, erows⟩ := paperF_ne rs ways good pat
    obtain ⟨a0, ga0, ha0⟩ := hr2.get (i := 0) (ns := hdr) (by rw [erows]; rfl)
    have ha0' := S12' _ _ ha0
    have hrl : ∀ r ∈ paperF rs ways good pat, r.length = ways.length := paperF_rows MO pat
    have hdl : hdr.length = ways.length := hrl hdr (by rw [erows]; exact List.mem_cons_self ..)
    have ha0m := List.mem_of_getElem? ga0
    obtain ⟨f0, f0p⟩ := hfr2 a0 ha0m
    -- again[0].append(7)
    refine ⟨_, rfl, p2, _, _, .ref a0, rfl, rfl, sql hp2', atI_nat (j := 0) (by rw [List.getElem?_map, ga0]; rfl), .inl ⟨rfl, _, sql ha0'⟩, a0, _, .int 7, rfl, rfl, ha0', szl (by rw [List.length_map]; omega), ?_⟩
    have S1013 : Same H10 (upd H12 a0 (.lst (hdr.map V.int ++ [.int 7]))) := S1012.mut f0
    have hp2'' : upd H12 a0 (.lst (hdr.map V.int ++ [.int 7])) p2 = some (.lst (as2.map V.ref)) := by
      rw [upd_ne (Ne.symm f0p)]
      exact hp2'
    have las2 : as2.length = pat.length + 1 := by rw [hr2.len, paperF_len]
    have M13 := M10.mono S1013
    refine ⟨_, rfl, _, _, rfl, .inl ⟨_, sql (S1013 _ _ hpp10), rfl⟩, _, _, rfl, rfl, _, rfl, ite2 (fun e => ?_) (fun _ => iteF ?_)⟩
    · have hpos : 0 < pxs.length := by
        have := of_decide_eq_true e
        omega
      have h1 : 1 < (paperF rs ways good pat).length := by rw [paperF_len]; omega
      obtain ⟨a1, ga1, ha1⟩ := hr2.get (i := 1) (List.getElem?_eq_getElem h1)
      have hne1 : a1 ≠ a0 := fun e => by
        rw [e] at ga1
        have i0 := (List.getElem?_eq_some_iff.mp ga0)
        have i1 := (List.getElem?_eq_some_iff.mp ga1)
        obtain ⟨b0, c0⟩ := i0
        obtain ⟨b1, c1⟩ := i1
        have := (List.getElem_inj hnd2).mp (c0.trans c1.symm)
        omega
      have ha1' : upd H12 a0 (.lst (hdr.map V.int ++ [.int 7])) a1 = some (.lst ((paperF rs ways good pat)[1].map V.int)) := by
        rw [upd_ne hne1]
        exact S12' _ _ ha1
      have hl1 : (paperF rs ways good pat)[1].length = ways.length := hrl _ (List.getElem_mem h1)
      obtain ⟨mdx, mfs, msc, mwl, mgl, me1, me2, me3, me4, me5, me6, me7, me8, _, me11⟩ := M13.ob
      refine ⟨_, rfl, p2, _, _, .ref a1, rfl, rfl, sql hp2'', atI_nat (j := 1) (by rw [List.getElem?_map, ga1]; rfl), _, _, rfl, .inl ⟨_, sql ha1', rfl⟩, _, rfl, mo, mdx, mfs, rfl, me1, me5, mo, rs, ways, good, rfl, M13, rfl, _, rfl, iteNS (by rw [List.length_map, hl1]) ?_⟩
      refine ⟨_, rfl, .inl ⟨rfl, _, sql hp2''⟩, p2, _, .int 1, rfl, rfl, hp2'', szl (by rw [List.length_map]; omega), ?_⟩
      have S1014 := S1013.mut (o := .lst (as2.map V.ref ++ [.int 1])) PA2.new
      have tpp14 := tpp10.mono S1014.tk
      refine ⟨_, rfl, _, rfl, _, rfl, _, rfl, mo, rs, ways, good, ra, pp, p, pat, rfl, M10.mono S1014, MO, hsm, by omega, Tra10.mono S1014, ⟨pxs, sql (S1014 _ _ hpp10), tpp14⟩, by omega, hgle, PR10.mono S1014, fun H15 S15' => ⟨true, rfl, iteF ?_⟩⟩
      have S1015 := S1014.trans S15'
      have tpp15 := tpp10.mono S1015.tk
      refine ⟨_, rfl, _, rfl, patD pat, patD pat, .lst (sql (S1015 _ _ hhd10)) (dp_pat tpp15), .lst (sql (S1015 _ _ hpp10)) (dp_pat tpp15), shaped_pat pat, shaped_pat pat, _, rfl, iteE (by rw [eqv_self (shaped_pat pat)]; rfl) ?_⟩
      have PR15 := PR10.mono S1015
      obtain ⟨as, hp15, hr15⟩ := id PR15
      obtain ⟨b0, gb0, hb0⟩ := hr15.get (i := 0) (ns := hdr) (by rw [erows]; rfl)
      have g0 : hdr[0]? = some (countF rs ways good pat) := by
        unfold countF
        rw [erows]
        show hdr[0]? = some (hdr.getD 0 0)
        rw [List.getD_eq_getElem?_getD, List.getElem?_eq_getElem (by omega)]
        rfl
      refine ⟨_, rfl, _, rfl, _, rfl, iteT ⟨_, rfl, _, rfl, p, _, _, .ref b0, rfl, rfl, sql hp15, atI_nat (j := 0) (by rw [List.getElem?_map, gb0]; rfl), b0, _, _, .int (countF rs ways good pat), rfl, rfl, sql hb0, atI_nat (j := 0) (int_get g0), rfl, _, rfl, iteD rfl ?_⟩⟩
      refine ⟨_, rfl, _, rfl, mo, rs, ways, good, hd, pat, rfl, M10.mono S1015, MO, hsm, by omega, ⟨pxs, sql (S1015 _ _ hhd10), tpp15⟩, by omega, hgle, fun p3 H16 PA3 => ?_⟩
      refine ⟨_, rfl, rowsD (paperF rs ways good pat), rowsD (paperF rs ways good pat), PA3.r.dp, (PR15.mono PA3.same).dp, shaped_rows _, shaped_rows _, ?_⟩
      rw [eqv_self (shaped_rows _)]
      exact q _
    · skip
      refine ⟨_, rfl, .inl ⟨rfl, _, sql hp2''⟩, p2, _, .int 1, rfl, rfl, hp2'', szl (by rw [List.length_map]; omega), ?_⟩
      have S1014 := S1013.mut (o := .lst (as2.map V.ref ++ [.int 1])) PA2.new
      have tpp14 := tpp10.mono S1014.tk
      refine ⟨_, rfl, _, rfl, _, rfl, _, rfl, mo, rs, ways, good, ra, pp, p, pat, rfl, M10.mono S1014, MO, hsm, by omega, Tra10.mono S1014, ⟨pxs, sql (S1014 _ _ hpp10), tpp14⟩, by omega, hgle, PR10.mono S1014, fun H15 S15' => ⟨true, rfl, iteF ?_⟩⟩
      have S1015 := S1014.trans S15'
      have tpp15 := tpp10.mono S1015.tk
      refine ⟨_, rfl, _, rfl, patD pat, patD pat, .lst (sql (S1015 _ _ hhd10)) (dp_pat tpp15), .lst (sql (S1015 _ _ hpp10)) (dp_pat tpp15), shaped_pat pat, shaped_pat pat, _, rfl, iteE (by rw [eqv_self (shaped_pat pat)]; rfl) ?_⟩
      have PR15 := PR10.mono S1015
      obtain ⟨as, hp15, hr15⟩ := id PR15
      obtain ⟨b0, gb0, hb0⟩ := hr15.get (i := 0) (ns := hdr) (by rw [erows]; rfl)
      have g0 : hdr[0]? = some (countF rs ways good pat) := by
        unfold countF
        rw [erows]
        show hdr[0]? = some (hdr.getD 0 0)
        rw [List.getD_eq_getElem?_getD, List.getElem?_eq_getElem (by omega)]
        rfl
      refine ⟨_, rfl, _, rfl, _, rfl, iteT ⟨_, rfl, _, rfl, p, _, _, .ref b0, rfl, rfl, sql hp15, atI_nat (j := 0) (by rw [List.getElem?_map, gb0]; rfl), b0, _, _, .int (countF rs ways good pat), rfl, rfl, sql hb0, atI_nat (j := 0) (int_get g0), rfl, _, rfl, iteD rfl ?_⟩⟩
      refine ⟨_, rfl, _, rfl, mo, rs, ways, good, hd, pat, rfl, M10.mono S1015, MO, hsm, by omega, ⟨pxs, sql (S1015 _ _ hhd10), tpp15⟩, by omega, hgle, fun p3 H16 PA3 => ?_⟩
      refine ⟨_, rfl, rowsD (paperF rs ways good pat), rowsD (paperF rs ways good pat), PA3.r.dp, (PR15.mono PA3.same).dp, shaped_rows _, shaped_rows _, ?_⟩
      rw [eqv_self (shaped_rows _)]
      exact q _
end
end Fv
set_option Elab.async false
set_option linter.all false
set_option maxRecDepth 100000
set_option maxHeartbeats 0
open PySem PySem.W PySem.Calls PyProof.Rows
theorem PySem.Challenge.cw_fourvoices_k42_paper_of_counts_holds : PySem.Challenge.rw_fourvoices_k42_paper_of_counts.Holds := by
  w_on; o_law
  refine HandSHeadRun.head_any (r := OpenLaw.row PySem.Challenge.rw_fourvoices_k42_paper_of_counts) (q := view (OpenLaw.row PySem.Challenge.rw_fourvoices_k42_paper_of_counts).prog [87]) (H := Fv.hk) (ob := Fv.ob) (M := 20000) (loose := Fv.names) (d := HandSHeadRun.topDef (OpenLaw.row PySem.Challenge.rw_fourvoices_k42_paper_of_counts).prog 87) (kwd := []) Fv.ob_eq
    (by kernel_rfl) (fun s => by kernel_rfl) Fv.run (by kernel_rfl) (by kernel_rfl) (by kernel_rfl) (by rfl) (by first | assumption | decide +kernel) (by decide +kernel) ⟨rfl, rfl, rfl, rfl, rfl, by decide +kernel⟩ ?hw ?hc
  case hw => w_witness2
  case hc =>
    refine L2.walk_ofE (l := PySem.Challenge.rw_fourvoices_k42_paper_of_counts) (n := 63) (k := 8) (x := "_law_script") (CX := L2.CX0) rfl (by decide) (by kernel_rfl) ⟨rfl, by decide, by decide⟩ ?F (fun _ _ _ _ z => z)
    intro w mg fa h Y G hmg0
    obtain ⟨K, KX, c⟩ := Y
    have hmg : mg ("law" : PySem.Str) = some (.ref fa) := by
      have e : (HandSHeadRun.topDef (OpenLaw.row PySem.Challenge.rw_fourvoices_k42_paper_of_counts).prog 87).name = ("law" : PySem.Str) := by kernel_rfl
      rw [← e]
      exact hmg0
    have T0 : Fv.Top K mg h := ⟨c, KX, G⟩
    have e := hmg.symm.trans T0.g_law
    cases e
    obtain ⟨fd, F⟩ := T0.D_law
    have b := L2.FunD.bindsA (ps := ["_law_script"]) F fun _ _ _ _ _ _ us hl => match us, hl with | [_], _ => rfl
    exact ⟨K, fd, Fv.sp_law K, KX, fun s v => b s [v] rfl, fun H a ns hl _ hS => ⟨a, ns, rfl, hS, hl, fun _ => rfl⟩, fun base KB GB => Fv.ok_law (P := (PySem.Challenge.rw_fourvoices_k42_paper_of_counts).prog) (w := w) (⟨c, KB, GB⟩ : Fv.Top K mg base) F⟩
